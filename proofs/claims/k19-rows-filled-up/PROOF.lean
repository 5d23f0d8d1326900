import PyProof.Rows.All
import Wide.All
import OpenK.AllK
import Wide.FinOn
import HandS.ForMost
import HandS.Exc
import HandS.TryOnly
import HandS.ExcOwn
import HandS.WordsExc
import HandS.CallSlots
import HandS.Flow
import HandS.TupAny
import HandS.StrMore
import HandS.More
import HandS.Zip
import HandS.Iter
import HandS.NoneIn
import HandS.IsInst
import PySem.Challenge.RW_farpage_k19_rows_filled_up
set_option Elab.async false
set_option linter.all false
set_option maxRecDepth 100000
/-! Z, the core: data by value, a small resolved syntax, its run. No model in sight. -/
namespace Z
open PySem

/-- data -/
inductive D where
  | non | bl (b : Bool) | int (i : Int) | str (s : List Nat) | tup (ds : List D) | lst (ds : List D) | scr (ns : List Int)
  deriving Inhabited

abbrev SZ : Nat := 16777216

mutual
def D.eqv : D → D → Bool
  | .non, e => match e with | .non => true | _ => false
  | .bl a, e => match e with | .bl b => a == b | .int j => (if a then 1 else 0) == j | _ => false
  | .int i, e => match e with | .bl b => i == (if b then 1 else 0) | .int j => i == j | _ => false
  | .str s, e => match e with | .str t => s == t | _ => false
  | .tup a, e => match e with | .tup b => eqvL a b | _ => false
  | .lst a, e => match e with | .lst b => eqvL a b | _ => false
  | .scr _, _ => false
def eqvL : List D → List D → Bool
  | [], e => e.isEmpty
  | x :: xs, e => match e with | y :: ys => D.eqv x y && eqvL xs ys | [] => false
end

mutual
def D.dep : D → Nat
  | .tup ds => depL ds + 1
  | .lst ds => depL ds + 1
  | _ => 0
def depL : List D → Nat
  | [] => 0
  | d :: ds => max d.dep (depL ds)
end

mutual
/-- no script within -/
def D.pl : D → Bool
  | .scr _ => false
  | .tup ds => plL ds
  | .lst ds => plL ds
  | _ => true
def plL : List D → Bool
  | [] => true
  | d :: ds => d.pl && plL ds
end

/-- a flat thing: x in xs asks it -/
def D.flat : D → Bool
  | .non | .bl _ | .int _ | .str _ => true
  | _ => false

def D.tr : D → Option Bool
  | .non => some false
  | .bl b => some b
  | .int i => some (i != 0)
  | .str s => if s.length ≤ SZ then some (!s.isEmpty) else none
  | .tup ds => some (!ds.isEmpty)
  | .lst ds => some (!ds.isEmpty)
  | .scr _ => none

/-! ### places and cuts -/
def ixN (n : Nat) (i : Int) : Option Nat := if 0 ≤ i then (if i < n then some i.toNat else none) else if -(n : Int) ≤ i then some (i + n).toNat else none
def sx (n d : Nat) : Option Int → Nat
  | none => d
  | some v => if v < 0 then (v + (n : Int)).toNat else min v.toNat n
def cut {α : Type} (xs : List α) (lo hi : Option Int) : List α := (xs.drop (sx xs.length 0 lo)).take (sx xs.length xs.length hi - sx xs.length 0 lo)
def rep {α : Type} (k : Nat) (xs : List α) : List α := (List.replicate k xs).flatten

/-! ### the syntax -/
inductive BOp where | add | sub | mul | fdiv | mod | pow | shl | shr | band | bor | bxor
  deriving DecidableEq
inductive COp where | eq | ne | lt | le | gt | ge | inn | nin
  deriving DecidableEq
inductive Blt where | len | list | tuple | str | int | abs | min2 | max2 | sum | sorted | all | any
  deriving DecidableEq
inductive Met where | append | pop | popAt | index | join | find1 | find2 | rfind | count | split | swith | ewith | reverse | clear | insert
  deriving DecidableEq
inductive Ty where | int | bool | str | tuple | list
  deriving DecidableEq
inductive IK where | seq | rng1 | rng2 | rng3 | enm | zip
  deriving DecidableEq

mutual
inductive Tg where
  | var (i : Nat)
  | tup (ts : Tgs)
inductive Tgs where
  | nil
  | cons (t : Tg) (r : Tgs)
end
mutual
inductive Ex where
  | cst (d : D) | var (i : Nat)
  | bin (o : BOp) (a b : Ex) | neg (a : Ex) | not (a : Ex) | and (a b : Ex) | or (a b : Ex)
  | cmp (o : COp) (a b : Ex) | chn (o p : COp) (a b c : Ex) | isN (a : Ex) | notN (a : Ex)
  | ife (c a b : Ex) | tup (es : Exs) | lst (es : Exs)
  | idx (a i : Ex) | slc (a : Ex) (lo hi : Exo)
  | call (f : Nat) (es : Exs) | blt (f : Blt) (es : Exs) | met (m : Met) (a : Ex) (es : Exs) | joi (a : Ex) (es : Exs)
  | lc (e : Ex) (t : Tg) (k : IK) (es : Exs) (c : Ex) (vs : List Nat) | lrg (es : Exs) | isi (a : Ex) (ts : List Ty)
inductive Exs where
  | nil
  | cons (e : Ex) (r : Exs)
inductive Exo where
  | no
  | so (e : Ex)
end
mutual
inductive Sx where
  | asg (t : Tg) (e : Ex) | par (i j : Nat) (a b : Ex) | sub (i : Nat) (ie e : Ex)
  | exp (e : Ex) | ret (e : Ex) | retN | iff (c : Ex) (a b : Ss) | fors (t : Tg) (k : IK) (es : Exs) (b : Ss) | whl (c : Ex) (b : Ss)
  | brk | cnt | pas | rse (c : Nat) | tryx (b : Ss) (c : Nat) (d : D) | nev
inductive Ss where
  | nil
  | cons (s : Sx) (r : Ss)
end

/-! ### states, results -/
/-- a slot: nothing; a value that never changes; a list of one's own; one lent by the caller; lent, and now fixed; locked by a walk (lent or own) -/
inductive Slot where
  | no | sh (d : D) | ow (ds : List D) | le (ds : List D) | lf (d : D) | lk (l : Bool) (ds : List D)
structure S where
  e : List Slot
inductive Rv where
  | v (d : D) | o (ds : List D) | b (i : Nat)
inductive Ro (α : Type) where
  | ok (a : α) (s : S) | ex (c : Nat) (s : S) | bad
def Ro.bind {α β : Type} (r : Ro α) (f : α → S → Ro β) : Ro β := match r with
  | .ok a s => f a s
  | .ex c s => .ex c s
  | .bad => .bad
/-- a call's end: the answer, the parameters' slots -/
inductive Co where
  | ok (r : Rv) (es : List Slot) | ex (c : Nat) (es : List Slot) | bad
inductive Fo where
  | nx (s : S) | rt (r : Rv) (s : S) | bk (s : S) | ct (s : S) | ex (c : Nat) (s : S) | bad

def ofO {α : Type} (o : Option α) (s : S) : Ro α := match o with
  | some a => .ok a s
  | none => .bad

/-- a value is stored in a slot -/
def putS (i : Nat) (x : Slot) (s : S) : Option S := match s.e[i]? with
  | some .no => some ⟨s.e.set i x⟩
  | some (.sh _) => some ⟨s.e.set i x⟩
  | some (.ow _) => some ⟨s.e.set i x⟩
  | _ => none
/-- what stands in a slot, as it is now -/
def cntS (s : S) (i : Nat) : Option D := match s.e[i]? with
  | some (.sh d) => some d
  | some (.ow ds) => some (.lst ds)
  | some (.le ds) => some (.lst ds)
  | some (.lf d) => some d
  | some (.lk _ ds) => some (.lst ds)
  | _ => none
def cnt (s : S) : Rv → Option D
  | .v d => some d
  | .o ds => some (.lst ds)
  | .b i => cntS s i
/-- an own list that came as a value is fixed -/
def opd : Rv → Rv
  | .o ds => .v (.lst ds)
  | r => r
/-- fixed for good -/
def frz (r : Rv) (s : S) : Ro D := match r with
  | .v d => .ok d s
  | .o ds => .ok (.lst ds) s
  | .b i => match s.e[i]? with
    | some (.sh d) => .ok d s
    | some (.lf d) => .ok d s
    | some (.ow ds) => .ok (.lst ds) ⟨s.e.set i (.sh (.lst ds))⟩
    | some (.le ds) => .ok (.lst ds) ⟨s.e.set i (.lf (.lst ds))⟩
    | _ => .bad
def getV (i : Nat) (s : S) : Ro Rv := match s.e[i]? with
  | some (.sh d) => .ok (.v d) s
  | some (.lf d) => .ok (.v d) s
  | some (.ow _) => .ok (.b i) s
  | some (.le _) => .ok (.b i) s
  | some (.lk _ _) => .ok (.b i) s
  | _ => .bad

/-! ### operators by values -/
def CM (i j : Int) : Bool := decide (i.natAbs < 18446744073709551616) || decide (j.natAbs < 18446744073709551616)
def okI (k : Int) : Bool := decide (k.natAbs < 9223372036854775808)
/-- where a text stands in a text, from a place on -/
def atS (s t : List Nat) (i : Nat) : Bool := decide (i ≤ s.length) && t.isPrefixOf (s.drop i)
def fnd (s t : List Nat) (lo : Nat) : Option Nat := (List.range (s.length + 1)).find? fun i => decide (lo ≤ i) && atS s t i
def rfn (s t : List Nat) : Option Nat := (List.range (s.length + 1)).reverse.find? fun i => atS s t i
def fndI : Option Nat → Int
  | some i => (i : Int)
  | none => -1
def inS (t s : List Nat) : Bool := match t with
  | [c] => decide (c ∈ s)
  | t => (fnd s t 0).isSome
def addR : D → D → Option Rv
  | .int i, .int j => some (.v (.int (i + j)))
  | .str s, .str t => if s.length + t.length ≤ SZ then some (.v (.str (s ++ t))) else none
  | .lst a, .lst b => if a.length + b.length ≤ SZ then some (.o (a ++ b)) else none
  | .tup a, .tup b => if a.length + b.length ≤ SZ then some (.v (.tup (a ++ b))) else none
  | _, _ => none
def mulR : D → D → Option Rv
  | .int i, .int j => if CM i j then some (.v (.int (i * j))) else none
  | .str s, .int k => if okI k = true ∧ s.length * k.toNat ≤ SZ then some (.v (.str (rep k.toNat s))) else none
  | .lst a, .int k => if okI k = true ∧ a.length * k.toNat ≤ SZ then some (.o (rep k.toNat a)) else none
  | _, _ => none
def intR (c : Int → Int → Bool) (f : Int → Int → Int) : D → D → Option Rv
  | .int i, .int j => if c i j then some (.v (.int (f i j))) else none
  | _, _ => none
def binR (o : BOp) (d e : D) : Option Rv := match o with
  | .add => addR d e
  | .sub => intR (fun _ _ => true) (fun i j => i - j) d e
  | .mul => mulR d e
  | .fdiv => intR (fun _ j => j != 0 && decide (j.natAbs < 1073741824)) (fun i j => i.fdiv j) d e
  | .mod => intR (fun _ j => j != 0) (fun i j => i.fmod j) d e
  | .pow => intR (fun i j => decide (0 ≤ j) && decide (j ≤ 1000000) && decide (i.natAbs < 18446744073709551616)) (fun i j => i ^ j.toNat) d e
  | .shl => intR (fun i j => decide (0 ≤ j) && decide (j ≤ 1000000) && decide (i.natAbs < 18446744073709551616)) (fun i j => i * 2 ^ j.toNat) d e
  | .shr => intR (fun _ j => decide (0 ≤ j)) (fun i j => i / 2 ^ j.toNat) d e
  | .band => intR (fun i j => decide (0 ≤ i) && decide (0 ≤ j)) (fun i j => ((i.toNat &&& j.toNat : Nat) : Int)) d e
  | .bor => intR (fun i j => decide (0 ≤ i) && decide (0 ≤ j)) (fun i j => ((i.toNat ||| j.toNat : Nat) : Int)) d e
  | .bxor => intR (fun i j => decide (0 ≤ i) && decide (0 ≤ j)) (fun i j => ((i.toNat ^^^ j.toNat : Nat) : Int)) d e
def cmpR (o : COp) (d e : D) : Option Bool := match o with
  | .eq => if d.pl && e.pl && decide (d.dep ≤ 64) && decide (e.dep ≤ 64) then some (d.eqv e) else none
  | .ne => if d.pl && e.pl && decide (d.dep ≤ 64) && decide (e.dep ≤ 64) then some (!d.eqv e) else none
  | .lt => match d, e with | .int i, .int j => some (decide (i < j)) | _, _ => none
  | .le => match d, e with | .int i, .int j => some (decide (i ≤ j)) | _, _ => none
  | .gt => match d, e with | .int i, .int j => some (decide (j < i)) | _, _ => none
  | .ge => match d, e with | .int i, .int j => some (decide (j ≤ i)) | _, _ => none
  | .inn => match e with
    | .lst es => if d.flat && es.all D.flat then some (es.any fun x => x.eqv d) else none
    | .tup es => if d.flat && es.all D.flat then some (es.any fun x => x.eqv d) else none
    | .str s => match d with | .str t => some (inS t s) | _ => none
    | _ => none
  | .nin => match e with
    | .lst es => if d.flat && es.all D.flat then some (!es.any fun x => x.eqv d) else none
    | .tup es => if d.flat && es.all D.flat then some (!es.any fun x => x.eqv d) else none
    | .str s => match d with | .str t => some (!inS t s) | _ => none
    | _ => none
def idxR : D → D → Option D
  | .lst ds, .int i => (ixN ds.length i).bind fun k => ds[k]?
  | .tup ds, .int i => (ixN ds.length i).bind fun k => ds[k]?
  | .str s, .int i => if s.length ≤ SZ then (ixN s.length i).bind fun k => s[k]?.map fun c => .str [c] else none
  | .scr ns, .int i => (ixN ns.length i).bind fun k => ns[k]?.map .int
  | _, _ => none
def slcR (d : D) (lo hi : Option Int) : Option Rv := match d with
  | .lst ds => some (.o (cut ds lo hi))
  | .tup ds => some (.v (.tup (cut ds lo hi)))
  | .str s => if s.length ≤ SZ then some (.v (.str (cut s lo hi))) else none
  | _ => none
def strsOf : List D → Option (List (List Nat))
  | [] => some []
  | .str s :: ds => (strsOf ds).map (s :: ·)
  | _ => none
def intsOf : List D → Option (List Int)
  | [] => some []
  | .int i :: ds => (intsOf ds).map (i :: ·)
  | _ => none
def blsOf : List D → Option (List Bool)
  | [] => some []
  | .bl b :: ds => (blsOf ds).map (b :: ·)
  | _ => none
def joinL (sep : List Nat) : List (List Nat) → List Nat
  | [] => []
  | [x] => x
  | x :: y :: r => x ++ (sep ++ joinL sep (y :: r))
def bltR (f : Blt) (ds : List D) : Option Rv := match f with
  | .len => match ds with
    | [.lst xs] => some (.v (.int xs.length))
    | [.tup xs] => some (.v (.int xs.length))
    | [.str s] => if s.length ≤ SZ then some (.v (.int s.length)) else none
    | [.scr ns] => some (.v (.int ns.length))
    | _ => none
  | .list => match ds with
    | [.lst xs] => some (.o xs)
    | [.tup xs] => some (.o xs)
    | [.str s] => if s.length ≤ SZ then some (.o (s.map fun c => .str [c])) else none
    | _ => none
  | .tuple => match ds with
    | [.lst xs] => some (.v (.tup xs))
    | [.tup xs] => some (.v (.tup xs))
    | _ => none
  | .int => match ds with
    | [.int i] => some (.v (.int i))
    | [.bl b] => some (.v (.int (if b then 1 else 0)))
    | [.str [c]] => if 48 ≤ c ∧ c ≤ 57 then some (.v (.int ((c - 48 : Nat) : Int))) else none
    | _ => none
  | .str => match ds with
    | [.int i] => if 0 ≤ i ∧ i ≤ 9 then some (.v (.str [48 + i.toNat])) else none
    | _ => none
  | .abs => match ds with
    | [.int i] => some (.v (.int (if i < 0 then -i else i)))
    | _ => none
  | .min2 => match ds with
    | [.int i, .int j] => some (.v (.int (if j < i then j else i)))
    | _ => none
  | .max2 => match ds with
    | [.int i, .int j] => some (.v (.int (if j > i then j else i)))
    | _ => none
  | .sum => match ds with
    | [.lst xs] => (intsOf xs).map fun ns => .v (.int ns.sum)
    | _ => none
  | .all => match ds with
    | [.lst xs] => (blsOf xs).map fun bs => .v (.bl (bs.all id))
    | _ => none
  | .any => match ds with
    | [.lst xs] => (blsOf xs).map fun bs => .v (.bl (bs.any id))
    | _ => none
  | _ => none
/-- a method: the answer, and what the list becomes -/
def metR (m : Met) (d : D) (as : List D) : Option (Rv × Option (List D)) := match m with
  | .append => match d, as with
    | .lst ds, [x] => if ds.length < SZ then some (.v .non, some (ds ++ [x])) else none
    | _, _ => none
  | .pop => match d, as with
    | .lst ds, [] => ds[ds.length - 1]?.map fun x => (.v x, some ds.dropLast)
    | _, _ => none
  | .popAt => match d, as with
    | .lst ds, [.int i] => if okI i = true then (ixN ds.length i).bind fun k => ds[k]?.map fun x => (.v x, some (ds.eraseIdx k)) else none
    | _, _ => none
  | .join => match d, as with
    | .str s, [.lst ds] => (strsOf ds).bind fun ss => if (ss.map List.length).sum + ss.length * s.length ≤ SZ then some (.v (.str (joinL s ss)), none) else none
    | .str s, [.tup ds] => (strsOf ds).bind fun ss => if (ss.map List.length).sum + ss.length * s.length ≤ SZ then some (.v (.str (joinL s ss)), none) else none
    | _, _ => none
  | .index => match d, as with
    | .lst ds, [y] => if y.flat && ds.all D.flat then (ds.findIdx? fun x => x.eqv y).map fun (j : Nat) => (.v (.int (j : Int)), none) else none
    | _, _ => none
  | .find1 => match d, as with
    | .str s, [.str t] => some (.v (.int (fndI (fnd s t 0))), none)
    | _, _ => none
  | .find2 => match d, as with
    | .str s, [.str t, .int i] => if 0 ≤ i then some (.v (.int (fndI (fnd s t i.toNat))), none) else none
    | _, _ => none
  | .rfind => match d, as with
    | .str s, [.str t] => some (.v (.int (fndI (rfn s t))), none)
    | _, _ => none
  | .count => match d, as with
    | .str s, [.str [c]] => some (.v (.int ((s.count c : Nat) : Int)), none)
    | _, _ => none
  | .swith => match d, as with
    | .str s, [.str t] => some (.v (.bl (t.isPrefixOf s)), none)
    | _, _ => none
  | .reverse => match d, as with
    | .lst ds, [] => some (.v .non, some ds.reverse)
    | _, _ => none
  | .clear => match d, as with
    | .lst ds, [] => some (.v .non, some [])
    | _, _ => none
  | .insert => match d, as with
    | .lst ds, [.int i, y] => if ds.length < SZ ∧ 0 ≤ i ∧ okI i = true then some (.v .non, some (ds.take i.toNat ++ [y] ++ ds.drop i.toNat)) else none
    | _, _ => none
  | _ => none

/-! ### the run -/
section
variable (cf : Nat → List Slot → Co)
def eBin (o : BOp) (fa fb : S → Ro Rv) : S → Ro Rv := fun s => (fa s).bind fun ra s1 => (fb s1).bind fun rb s2 => ofO ((cnt s2 ra).bind fun d => (cnt s2 rb).bind fun e => binR o d e) s2
def eCmpB (o : COp) (fa fb : S → Ro Rv) : S → Ro Bool := fun s => (fa s).bind fun ra s1 => (fb s1).bind fun rb s2 => ofO ((cnt s2 ra).bind fun d => (cnt s2 rb).bind fun e => cmpR o d e) s2
def eChnB (o p : COp) (fa fb fc : S → Ro Rv) : S → Ro Bool := fun s => (fa s).bind fun ra s1 => (fb s1).bind fun rb s2 =>
  (ofO ((cnt s2 ra).bind fun d => (cnt s2 rb).bind fun e => cmpR o d e) s2).bind fun k s3 => if k then (fc s3).bind fun rc s4 => ofO ((cnt s4 rb).bind fun d => (cnt s4 rc).bind fun e => cmpR p d e) s4 else .ok false s3
def toV (f : S → Ro Bool) : S → Ro Rv := fun s => (f s).bind fun k s1 => .ok (.v (.bl k)) s1
/-- a value's truth -/
def tst (f : S → Ro Rv) : S → Ro Bool := fun s => (f s).bind fun r s1 => ofO ((cnt s1 r).bind D.tr) s1
def eNeg (fa : S → Ro Rv) : S → Ro Rv := fun s => (fa s).bind fun ra s1 => match ra with
  | .v (.int i) => .ok (.v (.int (-i))) s1
  | _ => .bad
def eNot (fa : S → Ro Rv) : S → Ro Rv := fun s => (tst fa s).bind fun k s1 => .ok (.v (.bl (!k))) s1
def eAnd (fa fb : S → Ro Rv) : S → Ro Rv := fun s => (fa s).bind fun ra s1 => (ofO ((cnt s1 ra).bind D.tr) s1).bind fun k s2 => if k then fb s2 else .ok (opd ra) s2
def eOr (fa fb : S → Ro Rv) : S → Ro Rv := fun s => (fa s).bind fun ra s1 => (ofO ((cnt s1 ra).bind D.tr) s1).bind fun k s2 => if k then .ok (opd ra) s2 else fb s2
def eIsN (b : Bool) (fa : S → Ro Rv) : S → Ro Rv := fun s => (fa s).bind fun ra s1 => (ofO (cnt s1 ra) s1).bind fun d s2 => match d with
  | .non => .ok (.v (.bl b)) s2
  | _ => .ok (.v (.bl (!b))) s2
def eIfe (fc fa fb : S → Ro Rv) : S → Ro Rv := fun s => (tst fc s).bind fun k s1 => if k then fa s1 else fb s1
def eTup (fs : S → Ro (List D)) : S → Ro Rv := fun s => (fs s).bind fun ds s1 => if ds.length ≤ SZ then .ok (.v (.tup ds)) s1 else .bad
def eLst (fs : S → Ro (List D)) : S → Ro Rv := fun s => (fs s).bind fun ds s1 => if ds.length ≤ SZ then .ok (.o ds) s1 else .bad
def eIdx (fa fi : S → Ro Rv) : S → Ro Rv := fun s => (fa s).bind fun ra s1 => (fi s1).bind fun ri s2 => ofO ((cnt s2 ra).bind fun d => (cnt s2 ri).bind fun e => (idxR d e).map .v) s2
def eSlc (fa : S → Ro Rv) (fl fh : S → Ro (Option Int)) : S → Ro Rv := fun s => (fa s).bind fun ra s1 => (fl s1).bind fun lo s2 => (fh s2).bind fun hi s3 => ofO ((cnt s3 ra).bind fun d => slcR d lo hi) s3
def eSo (fa : S → Ro Rv) : S → Ro (Option Int) := fun s => (fa s).bind fun ra s1 => match ra with
  | .v (.int i) => .ok (some i) s1
  | _ => .bad
/-- the slots that a call hands to its parameters -/
def hand (s : S) : List Rv → Option (List Slot)
  | [] => some []
  | .v d :: rs => (hand s rs).map (.sh d :: ·)
  | .o _ :: _ => none
  | .b i :: rs => match s.e[i]? with
    | some (.sh d) => (hand s rs).map (.sh d :: ·)
    | some (.lf d) => (hand s rs).map (.sh d :: ·)
    | some (.ow ds) => (hand s rs).map (.le ds :: ·)
    | some (.le ds) => (hand s rs).map (.le ds :: ·)
    | some (.lk _ ds) => (hand s rs).map (.lk true ds :: ·)
    | _ => none
/-- the slots that are lent -/
def lent (s : S) : List Rv → List Nat
  | [] => []
  | .b i :: rs => match s.e[i]? with
    | some (.ow _) => i :: lent s rs
    | some (.le _) => i :: lent s rs
    | some (.lk _ _) => i :: lent s rs
    | _ => lent s rs
  | _ :: rs => lent s rs
def dist : List Nat → Bool
  | [] => true
  | x :: xs => !xs.contains x && dist xs
/-- what was lent comes back -/
def back : List Rv → List Slot → S → Option S
  | [], _, s => some s
  | .b i :: rs, c :: cs, s => match s.e[i]?, c with
    | some (.ow _), .le ds => back rs cs ⟨s.e.set i (.ow ds)⟩
    | some (.ow _), .lf d => back rs cs ⟨s.e.set i (.sh d)⟩
    | some (.ow _), .lk _ ds => back rs cs ⟨s.e.set i (.ow ds)⟩
    | some (.le _), .le ds => back rs cs ⟨s.e.set i (.le ds)⟩
    | some (.le _), .lf d => back rs cs ⟨s.e.set i (.lf d)⟩
    | some (.le _), .lk _ ds => back rs cs ⟨s.e.set i (.le ds)⟩
    | some (.lk _ _), _ => back rs cs s
    | some (.sh _), _ => back rs cs s
    | some (.lf _), _ => back rs cs s
    | _, _ => none
  | _ :: rs, _ :: cs, s => back rs cs s
  | _ :: _, [], _ => none
def eCall (f : Nat) (fs : S → Ro (List Rv)) : S → Ro Rv := fun s => (fs s).bind fun rs s1 => match hand s1 rs with
  | none => .bad
  | some sl => if dist (lent s1 rs) then match cf f sl with
      | .ok (.b _) _ => .bad
      | .ok r es => match back rs es s1 with | some s2 => .ok r s2 | none => .bad
      | .ex c es => match back rs es s1 with | some s2 => .ex c s2 | none => .bad
      | .bad => .bad
    else .bad
def cnts (s : S) : List Rv → Option (List D)
  | [] => some []
  | r :: rs => (cnt s r).bind fun d => (cnts s rs).map (d :: ·)
def eBlt (f : Blt) (fs : S → Ro (List Rv)) : S → Ro Rv := fun s => (fs s).bind fun rs s1 => ofO ((cnts s1 rs).bind fun ds => bltR f ds) s1
/-- the list in a slot becomes another one -/
def mutS (i : Nat) (ds : List D) (s : S) : Option S := match s.e[i]? with
  | some (.ow _) => some ⟨s.e.set i (.ow ds)⟩
  | some (.le _) => some ⟨s.e.set i (.le ds)⟩
  | _ => none
/-- what a method wants of its own -/
def mok (m : Met) (d : D) : Bool := match m, d with
  | .append, .lst _ => true
  | .pop, .lst _ => true
  | .popAt, .lst _ => true
  | .index, .lst _ => true
  | .reverse, .lst _ => true
  | .clear, .lst _ => true
  | .insert, .lst _ => true
  | .append, _ => false
  | .pop, _ => false
  | .popAt, _ => false
  | .index, _ => false
  | .reverse, _ => false
  | .clear, _ => false
  | .insert, _ => false
  | _, .str _ => true
  | _, _ => false
def eMet (m : Met) (fa : S → Ro Rv) (fs : S → Ro (List D)) : S → Ro Rv := fun s => (fa s).bind fun ra s1 => (ofO ((cnt s1 ra).bind fun d => if mok m d then some () else none) s1).bind fun _ s1 => (fs s1).bind fun ds s2 => match (cnt s2 ra).bind fun d => metR m d ds with
  | none => .bad
  | some (r, none) => .ok r s2
  | some (r, some xs) => match ra with
    | .b i => match mutS i xs s2 with | some s3 => .ok r s3 | none => .bad
    | _ => .bad
/-- a join of what is only read -/
def eJoi (fa : S → Ro Rv) (fs : S → Ro (List Rv)) : S → Ro Rv := fun s => (fa s).bind fun ra s1 => (ofO ((cnt s1 ra).bind fun d => if mok .join d then some () else none) s1).bind fun _ s1 => (fs s1).bind fun rs s2 => ofO ((cnt s2 ra).bind fun d => (cnts s2 rs).bind fun ds => (metR .join d ds).map (·.1)) s2
/-! targets -/
mutual
def asgT : Tg → D → S → Option S
  | .var i, d, s => putS i (.sh d) s
  | .tup ts, d, s => match d with
    | .tup ds => asgTs ts ds s
    | .lst ds => asgTs ts ds s
    | _ => none
def asgTs : Tgs → List D → S → Option S
  | .nil, ds, s => if ds.isEmpty then some s else none
  | .cons t ts, ds, s => match ds with
    | d :: ds => (asgT t d s).bind fun s1 => asgTs ts ds s1
    | [] => none
end
/-! what is walked: the items, the slots that are locked meanwhile with what stood there -/
abbrev Lk := List (Nat × Slot)
def lockO (r : Rv) (s : S) : Ro (D × Lk) := match r with
  | .v d => .ok (d, []) s
  | .o ds => .ok (.lst ds, []) s
  | .b i => match s.e[i]? with
    | some (.sh d) => .ok (d, []) s
    | some (.lf d) => .ok (d, []) s
    | some (.ow ds) => .ok (.lst ds, [(i, .ow ds)]) ⟨s.e.set i (.lk false ds)⟩
    | some (.le ds) => .ok (.lst ds, [(i, .le ds)]) ⟨s.e.set i (.lk true ds)⟩
    | some (.lk l ds) => .ok (.lst ds, [(i, .lk l ds)]) s
    | _ => .bad
def unlock : Lk → S → S
  | [], s => s
  | (i, x) :: r, s => unlock r ⟨s.e.set i x⟩
def itemsOf : D → Option (List D)
  | .lst ds => some ds
  | .tup ds => some ds
  | .str s => some (s.map fun c => .str [c])
  | _ => none
def inR (i : Int) : Bool := decide (i.natAbs < 4611686018427387904)
def rgN (i j c : Int) : Nat := (if c > 0 then (if i < j then (j - i - 1) / c + 1 else 0) else (if i > j then (i - j - 1) / (-c) + 1 else 0)).toNat
def itSeq (rs : List Rv) (s1 : S) : Ro (List D × Lk) := match rs with
  | [r] => (lockO r s1).bind fun p s2 => ofO ((itemsOf p.1).map fun ds => (ds, p.2)) s2
  | _ => .bad
def itRng1 (rs : List Rv) (s1 : S) : Ro (List D × Lk) := match rs with
  | [.v (.int n)] => if inR n then .ok ((List.range n.toNat).map fun (k : Nat) => .int (k : Int), []) s1 else .bad
  | _ => .bad
def itRng2 (rs : List Rv) (s1 : S) : Ro (List D × Lk) := match rs with
  | [.v (.int i), .v (.int j)] => if inR i && inR j then .ok ((List.range (j - i).toNat).map fun (k : Nat) => .int (i + (k : Int)), []) s1 else .bad
  | _ => .bad
def itRng3 (rs : List Rv) (s1 : S) : Ro (List D × Lk) := match rs with
  | [.v (.int i), .v (.int j), .v (.int c)] => if inR i && inR j && c != 0 && decide (c.natAbs < 1000000000) then .ok ((List.range (rgN i j c)).map fun (k : Nat) => .int (i + (k : Int) * c), []) s1 else .bad
  | _ => .bad
def itEnm (rs : List Rv) (s1 : S) : Ro (List D × Lk) := match rs with
  | [r] => (lockO r s1).bind fun p s2 => match p.1 with
    | .lst ds => .ok (ds.zipIdx.map fun q => .tup [.int (q.2 : Int), q.1], p.2) s2
    | _ => .bad
  | _ => .bad
def itZip (rs : List Rv) (s1 : S) : Ro (List D × Lk) := match rs with
  | [r, r'] => (lockO r s1).bind fun p s2 => (lockO r' s2).bind fun q s3 => match p.1, q.1 with
    | .lst ds, .lst es => .ok ((ds.zip es).map fun x => .tup [x.1, x.2], p.2 ++ q.2) s3
    | .tup ds, .tup es => .ok ((ds.zip es).map fun x => .tup [x.1, x.2], p.2 ++ q.2) s3
    | _, _ => .bad
  | _ => .bad
def itK (k : IK) : List Rv → S → Ro (List D × Lk) := match k with
  | .seq => itSeq | .rng1 => itRng1 | .rng2 => itRng2 | .rng3 => itRng3 | .enm => itEnm | .zip => itZip
def evI (k : IK) (fs : S → Ro (List Rv)) : S → Ro (List D × Lk) := fun s => (fs s).bind (itK k)
/-- the slots of a comprehension's own names -/
def freeS (s : S) (vs : List Nat) : Bool := vs.all fun i => match s.e[i]? with
  | some .no => true
  | some (.sh _) => true
  | _ => false
def wipeS (s : S) : List Nat → S
  | [] => s
  | v :: vs => ⟨(wipeS s vs).e.set v .no⟩
def restS (s0 : S) (s : S) : List Nat → S
  | [] => s
  | v :: vs => ⟨(restS s0 s vs).e.set v (s0.e.getD v .no)⟩
def lcL (t : Tg) (vs : List Nat) (fc : S → Ro Bool) (fe : S → Ro Rv) : List D → List D → S → Ro (List D)
  | [], acc, s => .ok acc s
  | d :: ds, acc, s => match asgT t d s with
    | none => .bad
    | some s1 => match fc s1 with
      | .ok true s2 => match (fe s2).bind frz with
        | .ok x s3 => if acc.length < SZ then lcL t vs fc fe ds (acc ++ [x]) (wipeS s3 vs) else .bad
        | _ => .bad
      | .ok false s2 => lcL t vs fc fe ds acc (wipeS s2 vs)
      | _ => .bad
def eLc (t : Tg) (vs : List Nat) (fi : S → Ro (List D × Lk)) (fc : S → Ro Bool) (fe : S → Ro Rv) : S → Ro Rv := fun s => (fi s).bind fun p s1 =>
  if freeS s1 vs then (lcL t vs fc fe p.1 [] (wipeS s1 vs)).bind fun ds s2 => .ok (.o ds) (unlock p.2 (restS s1 s2 vs)) else .bad
def eLrg (fs : S → Ro (List Rv)) : S → Ro Rv := fun s => (evI .rng1 fs s).bind fun p s1 => if p.1.length ≤ SZ then .ok (.o p.1) s1 else .bad
def isTy (d : D) (t : Ty) : Bool := match t, d with
  | .int, .int _ => true
  | .int, .bl _ => true
  | .bool, .bl _ => true
  | .str, .str _ => true
  | .tuple, .tup _ => true
  | .list, .lst _ => true
  | _, _ => false
def eIsi (ts : List Ty) (fa : S → Ro Rv) : S → Ro Rv := fun s => (fa s).bind fun ra s1 => ofO ((cnt s1 ra).bind fun d => match d with | .scr _ => none | d => some (.v (.bl (ts.any (isTy d))))) s1

mutual
def ev : Ex → S → Ro Rv
  | .cst d => fun s => .ok (.v d) s
  | .var i => getV i
  | .bin o a b => eBin o (ev a) (ev b)
  | .neg a => eNeg (ev a)
  | .not a => eNot (ev a)
  | .and a b => eAnd (ev a) (ev b)
  | .or a b => eOr (ev a) (ev b)
  | .cmp o a b => toV (eCmpB o (ev a) (ev b))
  | .chn o p a b c => toV (eChnB o p (ev a) (ev b) (ev c))
  | .isN a => eIsN true (ev a)
  | .notN a => eIsN false (ev a)
  | .ife c a b => eIfe (ev c) (ev a) (ev b)
  | .tup es => eTup (evF es)
  | .lst es => eLst (evF es)
  | .idx a i => eIdx (ev a) (ev i)
  | .slc a lo hi => eSlc (ev a) (evo lo) (evo hi)
  | .call f es => eCall cf f (evs es)
  | .blt f es => eBlt f (evs es)
  | .met m a es => eMet m (ev a) (evF es)
  | .joi a es => eJoi (ev a) (evs es)
  | .lc e t k es c vs => eLc t vs (evI k (evs es)) (tst (ev c)) (ev e)
  | .lrg es => eLrg (evs es)
  | .isi a ts => eIsi ts (ev a)
def evs : Exs → S → Ro (List Rv)
  | .nil => fun s => .ok [] s
  | .cons e r => fun s => (ev e s).bind fun x s1 => (evs r s1).bind fun xs s2 => .ok (opd x :: xs) s2
def evF : Exs → S → Ro (List D)
  | .nil => fun s => .ok [] s
  | .cons e r => fun s => ((ev e s).bind frz).bind fun x s1 => (evF r s1).bind fun xs s2 => .ok (x :: xs) s2
def evo : Exo → S → Ro (Option Int)
  | .no => fun s => .ok none s
  | .so e => eSo (ev e)
end

/-! statements -/
def ofR (r : Ro S) : Fo := match r with
  | .ok s _ => .nx s
  | .ex c s => .ex c s
  | .bad => .bad
def ofS (o : Option S) : Fo := match o with
  | some s => .nx s
  | none => .bad
def Fo.of {α : Type} (r : Ro α) (f : α → S → Fo) : Fo := match r with
  | .ok a s => f a s
  | .ex c s => .ex c s
  | .bad => .bad
def Fo.bind (r : Fo) (f : S → Fo) : Fo := match r with
  | .nx s => f s
  | r => r
def sAsg (t : Tg) (fe : S → Ro Rv) : S → Fo := fun s => match t with
  | .var i => .of (fe s) fun r s1 => match r with
    | .v d => ofS (putS i (.sh d) s1)
    | .o ds => ofS (putS i (.ow ds) s1)
    | .b j => .of (frz (.b j) s1) fun d s2 => ofS (putS i (.sh d) s2)
  | .tup ts => .of ((fe s).bind frz) fun d s1 => ofS (asgT (.tup ts) d s1)
def sPar (i j : Nat) (fa fb : S → Ro Rv) : S → Fo := fun s => .of ((fa s).bind frz) fun d s1 => .of ((fb s1).bind frz) fun e s2 => ofS ((putS i (.sh d) s2).bind (putS j (.sh e)))
def subE (i : Nat) (d : D) (ri : Rv) (s2 : S) : Fo := match ri, cntS s2 i with
  | .v (.int k), some (.lst ds) => match ixN ds.length k with
    | some n => ofS (mutS i (ds.set n d) s2)
    | none => .bad
  | _, _ => .bad
def sSub (i : Nat) (fi fe : S → Ro Rv) : S → Fo := fun s => .of ((fe s).bind frz) fun d s1 => match cntS s1 i with
  | none => .bad
  | some _ => .of (fi s1) fun ri s2 => subE i d ri s2
def sRet (fe : S → Ro Rv) : S → Fo := fun s => .of (fe s) fun r s1 => match r with
  | .v d => .rt (.v d) s1
  | .o ds => .rt (.o ds) s1
  | .b i => match s1.e[i]? with
    | some (.ow ds) => .rt (.o ds) ⟨s1.e.set i .no⟩
    | some (.sh d) => .rt (.v d) s1
    | some (.lf d) => .rt (.v d) s1
    | some (.le ds) => .rt (.v (.lst ds)) ⟨s1.e.set i (.lf (.lst ds))⟩
    | _ => .bad
def sIf (fc : S → Ro Bool) (fa fb : S → Fo) : S → Fo := fun s => .of (fc s) fun k s1 => if k then fa s1 else fb s1
def forL (t : Tg) (lk : Lk) (fb : S → Fo) : List D → S → Fo
  | [], s => .nx (unlock lk s)
  | d :: ds, s => match asgT t d s with
    | none => .bad
    | some s1 => match fb s1 with
      | .nx s2 => forL t lk fb ds s2
      | .ct s2 => forL t lk fb ds s2
      | .bk s2 => .nx (unlock lk s2)
      | .rt r s2 => .rt r s2
      | .ex c s2 => .ex c s2
      | .bad => .bad
def sFor (t : Tg) (fi : S → Ro (List D × Lk)) (fb : S → Fo) : S → Fo := fun s => .of (fi s) fun p s1 => forL t p.2 fb p.1 s1
def whlL (fc : S → Ro Bool) (fb : S → Fo) : Nat → S → Fo
  | 0, _ => .bad
  | n + 1, s => .of (fc s) fun k s1 => if k then match fb s1 with
      | .nx s2 => whlL fc fb n s2
      | .ct s2 => whlL fc fb n s2
      | .bk s2 => .nx s2
      | r => r
    else .nx s1
abbrev fuelW : Nat := 1000000
/-- a suite that gives a constant -/
def tryF (fb : S → Fo) (c : Nat) (d : D) : S → Fo := fun s => match fb s with
  | .ex c' s' => if c' = c then .rt (.v d) s' else .bad
  | r => r
mutual
def xs : Sx → S → Fo
  | .asg t e => sAsg t (ev cf e)
  | .par i j a b => sPar i j (ev cf a) (ev cf b)
  | .sub i ie e => sSub i (ev cf ie) (ev cf e)
  | .exp e => fun s => .of (ev cf e s) fun _ s1 => .nx s1
  | .ret e => sRet (ev cf e)
  | .retN => fun s => .rt (.v .non) s
  | .iff c a b => sIf (tst (ev cf c)) (xss a) (xss b)
  | .fors t k es b => sFor t (evI k (evs cf es)) (xss b)
  | .whl c b => whlL (tst (ev cf c)) (xss b) fuelW
  | .brk => fun s => .bk s
  | .cnt => fun s => .ct s
  | .pas => fun s => .nx s
  | .rse c => fun s => .ex c s
  | .tryx b c d => tryF (xss b) c d
  | .nev => fun _ => .bad
def xss : Ss → S → Fo
  | .nil => fun s => .nx s
  | .cons st r => fun s => (xs st s).bind (xss r)
end
end

/-! defs, calls -/
structure Df where
  np : Nat
  nn : Nat
  body : Ss
def start (n : Nat) (sl : List Slot) : S := ⟨sl ++ List.replicate (n - sl.length) .no⟩
def endR (d : Df) (r : Rv) (s : S) : Co := if s.e.length = d.nn then (match r with
  | .b _ => .bad
  | r => .ok r (s.e.take d.np)) else .bad
def runDf (d : Df) (cf : Nat → List Slot → Co) (sl : List Slot) : Co := if sl.length = d.np ∧ d.np ≤ d.nn then match xss cf d.body (start d.nn sl) with
    | .rt r s => endR d r s
    | .nx s => endR d (.v .non) s
    | .ex c s => if s.e.length = d.nn then .ex c (s.e.take d.np) else .bad
    | _ => .bad
  else .bad
def call (P : List Df) : Nat → Nat → List Slot → Co
  | 0, _, _ => .bad
  | n + 1, f, sl => match P[f]? with
    | some d => runDf d (call P n) sl
    | none => .bad
end Z

/-! Z, the run's equations at a written state (x :: l): for simp only. -/
namespace Z
/-- two contents, then an operator: nothing is opened under a binder -/
def op2 {β : Type} (f : D → D → Option β) (a b : Option D) : Option β := a.bind fun d => b.bind fun e => f d e
theorem op2_some {β : Type} (f : D → D → Option β) (d e : D) : op2 f (some d) (some e) = f d e := rfl
def idxV (d e : D) : Option Rv := (idxR d e).map .v
def slcV (lo hi : Option Int) (d : D) : Option Rv := slcR d lo hi
def metV (m : Met) (ds : List D) (d : D) : Option (Rv × Option (List D)) := metR m d ds
def mokV (m : Met) (d : D) : Option Unit := if mok m d then some () else none
def isiV (ts : List Ty) (d : D) : Option Rv := match d with | .scr _ => none | d => some (.v (.bl (ts.any (isTy d))))
section
variable (cf : Nat → List Slot → Co) (x : Slot) (l : List Slot)
theorem ev_cst (d : D) : ev cf (.cst d) ⟨x :: l⟩ = .ok (.v d) ⟨x :: l⟩ := rfl
theorem ev_var (i : Nat) : ev cf (.var i) ⟨x :: l⟩ = (match (x :: l)[i]? with
    | some (.sh d) => .ok (.v d) ⟨x :: l⟩
    | some (.lf d) => .ok (.v d) ⟨x :: l⟩
    | some (.ow _) => .ok (.b i) ⟨x :: l⟩
    | some (.le _) => .ok (.b i) ⟨x :: l⟩
    | some (.lk _ _) => .ok (.b i) ⟨x :: l⟩
    | _ => .bad) := rfl
theorem ev_bin (o : BOp) (a b : Ex) : ev cf (.bin o a b) ⟨x :: l⟩ = (ev cf a ⟨x :: l⟩).bind fun ra s1 => (ev cf b s1).bind fun rb s2 => ofO (op2 (binR o) (cnt s2 ra) (cnt s2 rb)) s2 := rfl
theorem ev_neg (a : Ex) : ev cf (.neg a) ⟨x :: l⟩ = (ev cf a ⟨x :: l⟩).bind fun ra s1 => match ra with
  | .v (.int i) => .ok (.v (.int (-i))) s1
  | _ => .bad := rfl
theorem ev_not (a : Ex) : ev cf (.not a) ⟨x :: l⟩ = (tst (ev cf a) ⟨x :: l⟩).bind fun k s1 => .ok (.v (.bl (!k))) s1 := rfl
theorem ev_and (a b : Ex) : ev cf (.and a b) ⟨x :: l⟩ = (ev cf a ⟨x :: l⟩).bind fun ra s1 => (ofO ((cnt s1 ra).bind D.tr) s1).bind fun k s2 => if k then ev cf b s2 else .ok (opd ra) s2 := rfl
theorem ev_or (a b : Ex) : ev cf (.or a b) ⟨x :: l⟩ = (ev cf a ⟨x :: l⟩).bind fun ra s1 => (ofO ((cnt s1 ra).bind D.tr) s1).bind fun k s2 => if k then .ok (opd ra) s2 else ev cf b s2 := rfl
theorem ev_cmp (o : COp) (a b : Ex) : ev cf (.cmp o a b) ⟨x :: l⟩ = ((ev cf a ⟨x :: l⟩).bind fun ra s1 => (ev cf b s1).bind fun rb s2 => ofO (op2 (cmpR o) (cnt s2 ra) (cnt s2 rb)) s2).bind fun k s3 => .ok (.v (.bl k)) s3 := rfl
theorem ev_chn (o p : COp) (a b c : Ex) : ev cf (.chn o p a b c) ⟨x :: l⟩ = ((ev cf a ⟨x :: l⟩).bind fun ra s1 => (ev cf b s1).bind fun rb s2 =>
  (ofO (op2 (cmpR o) (cnt s2 ra) (cnt s2 rb)) s2).bind fun k s3 => if k then (ev cf c s3).bind fun rc s4 => ofO (op2 (cmpR p) (cnt s4 rb) (cnt s4 rc)) s4 else .ok false s3).bind fun k s3 => .ok (.v (.bl k)) s3 := rfl
theorem ev_isN (a : Ex) : ev cf (.isN a) ⟨x :: l⟩ = (ev cf a ⟨x :: l⟩).bind fun ra s1 => (ofO (cnt s1 ra) s1).bind fun d s2 => match d with
  | .non => .ok (.v (.bl true)) s2
  | _ => .ok (.v (.bl false)) s2 := rfl
theorem ev_notN (a : Ex) : ev cf (.notN a) ⟨x :: l⟩ = (ev cf a ⟨x :: l⟩).bind fun ra s1 => (ofO (cnt s1 ra) s1).bind fun d s2 => match d with
  | .non => .ok (.v (.bl false)) s2
  | _ => .ok (.v (.bl true)) s2 := rfl
theorem ev_ife (c a b : Ex) : ev cf (.ife c a b) ⟨x :: l⟩ = (tst (ev cf c) ⟨x :: l⟩).bind fun k s1 => if k then ev cf a s1 else ev cf b s1 := rfl
theorem ev_tup (es : Exs) : ev cf (.tup es) ⟨x :: l⟩ = (evF cf es ⟨x :: l⟩).bind fun ds s1 => if ds.length ≤ SZ then .ok (.v (.tup ds)) s1 else .bad := rfl
theorem ev_lst (es : Exs) : ev cf (.lst es) ⟨x :: l⟩ = (evF cf es ⟨x :: l⟩).bind fun ds s1 => if ds.length ≤ SZ then .ok (.o ds) s1 else .bad := rfl
theorem ev_idx (a i : Ex) : ev cf (.idx a i) ⟨x :: l⟩ = (ev cf a ⟨x :: l⟩).bind fun ra s1 => (ev cf i s1).bind fun ri s2 => ofO (op2 idxV (cnt s2 ra) (cnt s2 ri)) s2 := rfl
theorem ev_slc (a : Ex) (lo hi : Exo) : ev cf (.slc a lo hi) ⟨x :: l⟩ = (ev cf a ⟨x :: l⟩).bind fun ra s1 => (evo cf lo s1).bind fun lo s2 => (evo cf hi s2).bind fun hi s3 => ofO ((cnt s3 ra).bind (slcV lo hi)) s3 := rfl
theorem ev_call (f : Nat) (es : Exs) : ev cf (.call f es) ⟨x :: l⟩ = (evs cf es ⟨x :: l⟩).bind fun rs s1 => match hand s1 rs with
  | none => .bad
  | some sl => if dist (lent s1 rs) then match cf f sl with
      | .ok (.b _) _ => .bad
      | .ok r es => match back rs es s1 with | some s2 => .ok r s2 | none => .bad
      | .ex c es => match back rs es s1 with | some s2 => .ex c s2 | none => .bad
      | .bad => .bad
    else .bad := rfl
theorem ev_blt (f : Blt) (es : Exs) : ev cf (.blt f es) ⟨x :: l⟩ = (evs cf es ⟨x :: l⟩).bind fun rs s1 => ofO ((cnts s1 rs).bind (bltR f)) s1 := rfl
def joiV (d : D) (ds : List D) : Option Rv := (metR .join d ds).map (·.1)
theorem ev_joi (a : Ex) (es : Exs) : ev cf (.joi a es) ⟨x :: l⟩ = (ev cf a ⟨x :: l⟩).bind fun ra s1 => (ofO ((cnt s1 ra).bind (mokV .join)) s1).bind fun _ s1 => (evs cf es s1).bind fun rs s2 => ofO ((cnt s2 ra).bind fun d => (cnts s2 rs).bind (joiV d)) s2 := rfl
theorem ev_met (m : Met) (a : Ex) (es : Exs) : ev cf (.met m a es) ⟨x :: l⟩ = (ev cf a ⟨x :: l⟩).bind fun ra s1 => (ofO ((cnt s1 ra).bind (mokV m)) s1).bind fun _ s1 => (evF cf es s1).bind fun ds s2 => match (cnt s2 ra).bind (metV m ds) with
  | none => .bad
  | some (r, none) => .ok r s2
  | some (r, some xs) => match ra with
    | .b i => match mutS i xs s2 with | some s3 => .ok r s3 | none => .bad
    | _ => .bad := rfl
theorem ev_lc (e : Ex) (t : Tg) (k : IK) (es : Exs) (c : Ex) (vs : List Nat) : ev cf (.lc e t k es c vs) ⟨x :: l⟩ = (evI k (evs cf es) ⟨x :: l⟩).bind fun p s1 =>
  if freeS s1 vs then (lcL t vs (tst (ev cf c)) (ev cf e) p.1 [] (wipeS s1 vs)).bind fun ds s2 => .ok (.o ds) (unlock p.2 (restS s1 s2 vs)) else .bad := rfl
theorem ev_isi (a : Ex) (ts : List Ty) : ev cf (.isi a ts) ⟨x :: l⟩ = (ev cf a ⟨x :: l⟩).bind fun ra s1 => ofO ((cnt s1 ra).bind (isiV ts)) s1 := rfl
theorem tst_eq (f : S → Ro Rv) : tst f ⟨x :: l⟩ = (f ⟨x :: l⟩).bind fun r s1 => ofO ((cnt s1 r).bind D.tr) s1 := rfl
theorem evI_eq (k : IK) (fs : S → Ro (List Rv)) : evI k fs ⟨x :: l⟩ = (fs ⟨x :: l⟩).bind (itK k) := rfl
theorem evs_nil : evs cf .nil ⟨x :: l⟩ = .ok [] ⟨x :: l⟩ := rfl
theorem evs_cons (e : Ex) (r : Exs) : evs cf (.cons e r) ⟨x :: l⟩ = (ev cf e ⟨x :: l⟩).bind fun x s1 => (evs cf r s1).bind fun xs s2 => .ok (opd x :: xs) s2 := rfl
theorem evF_nil : evF cf .nil ⟨x :: l⟩ = .ok [] ⟨x :: l⟩ := rfl
theorem evF_cons (e : Ex) (r : Exs) : evF cf (.cons e r) ⟨x :: l⟩ = ((ev cf e ⟨x :: l⟩).bind frz).bind fun x s1 => (evF cf r s1).bind fun xs s2 => .ok (x :: xs) s2 := rfl
theorem evo_no : evo cf .no ⟨x :: l⟩ = .ok none ⟨x :: l⟩ := rfl
theorem evo_so (e : Ex) : evo cf (.so e) ⟨x :: l⟩ = (ev cf e ⟨x :: l⟩).bind fun ra s1 => match ra with
  | .v (.int i) => .ok (some i) s1
  | _ => .bad := rfl
theorem xs_asg (i : Nat) (e : Ex) : xs cf (.asg (.var i) e) ⟨x :: l⟩ = .of (ev cf e ⟨x :: l⟩) fun r s1 => match r with
    | .v d => ofS (putS i (.sh d) s1)
    | .o ds => ofS (putS i (.ow ds) s1)
    | .b j => .of (frz (.b j) s1) fun d s2 => ofS (putS i (.sh d) s2) := rfl
theorem xs_asgT (ts : Tgs) (e : Ex) : xs cf (.asg (.tup ts) e) ⟨x :: l⟩ = .of ((ev cf e ⟨x :: l⟩).bind frz) fun d s1 => ofS (asgT (.tup ts) d s1) := rfl
theorem xs_par (i j : Nat) (a b : Ex) : xs cf (.par i j a b) ⟨x :: l⟩ = .of ((ev cf a ⟨x :: l⟩).bind frz) fun d s1 => .of ((ev cf b s1).bind frz) fun e s2 => ofS ((putS i (.sh d) s2).bind (putS j (.sh e))) := rfl
theorem xs_sub (i : Nat) (ie e : Ex) : xs cf (.sub i ie e) ⟨x :: l⟩ = .of ((ev cf e ⟨x :: l⟩).bind frz) fun d s1 => match cntS s1 i with
  | none => .bad
  | some _ => .of (ev cf ie s1) fun ri s2 => subE i d ri s2 := rfl
theorem xs_exp (e : Ex) : xs cf (.exp e) ⟨x :: l⟩ = .of (ev cf e ⟨x :: l⟩) fun _ s1 => .nx s1 := rfl
theorem xs_ret (e : Ex) : xs cf (.ret e) ⟨x :: l⟩ = .of (ev cf e ⟨x :: l⟩) fun r s1 => match r with
  | .v d => .rt (.v d) s1
  | .o ds => .rt (.o ds) s1
  | .b i => match s1.e[i]? with
    | some (.ow ds) => .rt (.o ds) ⟨s1.e.set i .no⟩
    | some (.sh d) => .rt (.v d) s1
    | some (.lf d) => .rt (.v d) s1
    | some (.le ds) => .rt (.v (.lst ds)) ⟨s1.e.set i (.lf (.lst ds))⟩
    | _ => .bad := rfl
theorem xs_retN : xs cf .retN ⟨x :: l⟩ = .rt (.v .non) ⟨x :: l⟩ := rfl
theorem xs_if (c : Ex) (a b : Ss) : xs cf (.iff c a b) ⟨x :: l⟩ = .of (tst (ev cf c) ⟨x :: l⟩) fun k s1 => if k then xss cf a s1 else xss cf b s1 := rfl
theorem xs_for (t : Tg) (k : IK) (es : Exs) (b : Ss) : xs cf (.fors t k es b) ⟨x :: l⟩ = .of (evI k (evs cf es) ⟨x :: l⟩) fun p s1 => forL t p.2 (xss cf b) p.1 s1 := rfl
theorem xs_whl (c : Ex) (b : Ss) : xs cf (.whl c b) ⟨x :: l⟩ = whlL (tst (ev cf c)) (xss cf b) fuelW ⟨x :: l⟩ := rfl
theorem xs_rse (c : Nat) : xs cf (.rse c) ⟨x :: l⟩ = .ex c ⟨x :: l⟩ := rfl
theorem xs_brk : xs cf .brk ⟨x :: l⟩ = .bk ⟨x :: l⟩ := rfl
theorem xs_cnt : xs cf .cnt ⟨x :: l⟩ = .ct ⟨x :: l⟩ := rfl
theorem xs_pas : xs cf .pas ⟨x :: l⟩ = .nx ⟨x :: l⟩ := rfl
theorem xss_nil : xss cf .nil ⟨x :: l⟩ = .nx ⟨x :: l⟩ := rfl
theorem xss_cons (st : Sx) (r : Ss) : xss cf (.cons st r) ⟨x :: l⟩ = (xs cf st ⟨x :: l⟩).bind (xss cf r) := rfl
end
theorem itK_seq (r : Rv) (s : S) : itK .seq [r] s = (lockO r s).bind fun p s2 => ofO ((itemsOf p.1).map fun ds => (ds, p.2)) s2 := rfl
theorem itK_rng1 (n : Int) (s : S) : itK .rng1 [.v (.int n)] s = if inR n then .ok ((List.range n.toNat).map fun (k : Nat) => .int (k : Int), []) s else .bad := rfl
theorem itK_rng2 (i j : Int) (s : S) : itK .rng2 [.v (.int i), .v (.int j)] s = if inR i && inR j then .ok ((List.range (j - i).toNat).map fun (k : Nat) => .int (i + (k : Int)), []) s else .bad := rfl
theorem itK_rng3 (i j c : Int) (s : S) : itK .rng3 [.v (.int i), .v (.int j), .v (.int c)] s = if inR i && inR j && c != 0 && decide (c.natAbs < 1000000000) then .ok ((List.range (rgN i j c)).map fun (k : Nat) => .int (i + (k : Int) * c), []) s else .bad := rfl
theorem itK_enm (r : Rv) (s : S) : itK .enm [r] s = (lockO r s).bind fun p s2 => match p.1 with
    | .lst ds => .ok (ds.zipIdx.map fun q => .tup [.int (q.2 : Int), q.1], p.2) s2
    | _ => .bad := rfl
theorem itK_zip (r r' : Rv) (s : S) : itK .zip [r, r'] s = (lockO r s).bind fun p s2 => (lockO r' s2).bind fun q s3 => match p.1, q.1 with
    | .lst ds, .lst es => .ok ((ds.zip es).map fun x => .tup [x.1, x.2], p.2 ++ q.2) s3
    | .tup ds, .tup es => .ok ((ds.zip es).map fun x => .tup [x.1, x.2], p.2 ++ q.2) s3
    | _, _ => .bad := rfl
theorem bind_ok {α β : Type} (a : α) (s : S) (f : α → S → Ro β) : (Ro.ok a s).bind f = f a s := rfl
theorem bind_bad {α β : Type} (f : α → S → Ro β) : (Ro.bad : Ro α).bind f = .bad := rfl
theorem of_ok {α : Type} (a : α) (s : S) (f : α → S → Fo) : Fo.of (.ok a s) f = f a s := rfl
theorem fbind_nx (s : S) (f : S → Fo) : (Fo.nx s).bind f = f s := rfl
theorem fbind_rt (r : Rv) (s : S) (f : S → Fo) : (Fo.rt r s).bind f = .rt r s := rfl
theorem fbind_bk (s : S) (f : S → Fo) : (Fo.bk s).bind f = .bk s := rfl
theorem fbind_ct (s : S) (f : S → Fo) : (Fo.ct s).bind f = .ct s := rfl
theorem ofO_some {α : Type} (a : α) (s : S) : ofO (some a) s = .ok a s := rfl
theorem ofS_some (s : S) : ofS (some s) = .nx s := rfl
theorem cnt_v (s : S) (d : D) : cnt s (.v d) = some d := rfl
theorem cnt_o (s : S) (ds : List D) : cnt s (.o ds) = some (.lst ds) := rfl
theorem cnt_b (l : List Slot) (i : Nat) : cnt ⟨l⟩ (.b i) = (match l[i]? with
  | some (.sh d) => some d
  | some (.ow ds) => some (.lst ds)
  | some (.le ds) => some (.lst ds)
  | some (.lf d) => some d
  | some (.lk _ ds) => some (.lst ds)
  | _ => none) := rfl
theorem cntS_eq (l : List Slot) (i : Nat) : cntS ⟨l⟩ i = (match l[i]? with
  | some (.sh d) => some d
  | some (.ow ds) => some (.lst ds)
  | some (.le ds) => some (.lst ds)
  | some (.lf d) => some d
  | some (.lk _ ds) => some (.lst ds)
  | _ => none) := rfl
theorem frz_v (d : D) (s : S) : frz (.v d) s = .ok d s := rfl
theorem frz_o (ds : List D) (s : S) : frz (.o ds) s = .ok (.lst ds) s := rfl
theorem frz_b (l : List Slot) (i : Nat) : frz (.b i) ⟨l⟩ = (match l[i]? with
    | some (.sh d) => .ok d ⟨l⟩
    | some (.lf d) => .ok d ⟨l⟩
    | some (.ow ds) => .ok (.lst ds) ⟨l.set i (.sh (.lst ds))⟩
    | some (.le ds) => .ok (.lst ds) ⟨l.set i (.lf (.lst ds))⟩
    | _ => .bad) := rfl
/-- a slot that may be stored to -/
def fr : Slot → Bool
  | .no => true
  | .sh _ => true
  | .ow _ => true
  | _ => false
theorem fr_no : fr .no = true := rfl
theorem fr_sh (d : D) : fr (.sh d) = true := rfl
theorem fr_ow (d : List D) : fr (.ow d) = true := rfl
theorem fr_le (d : List D) : fr (.le d) = false := rfl
theorem fr_lf (d : D) : fr (.lf d) = false := rfl
theorem fr_lk (b : Bool) (d : List D) : fr (.lk b d) = false := rfl
theorem putS_fr (i : Nat) (y : Slot) (l : List Slot) : putS i y ⟨l⟩ = (match l[i]? with
  | some x => if fr x = true then some ⟨l.set i y⟩ else none
  | none => none) := by
  unfold putS
  cases l[i]? with
  | none => rfl
  | some x => cases x <;> rfl
theorem mutS_eq (i : Nat) (ds : List D) (l : List Slot) : mutS i ds ⟨l⟩ = (match l[i]? with
  | some (.ow _) => some ⟨l.set i (.ow ds)⟩
  | some (.le _) => some ⟨l.set i (.le ds)⟩
  | _ => none) := rfl
end Z

/-! Z, the relation: data and slots over the abstract heap. -/
namespace Z
open PySem PySem.Spec PyProof.Rows L2

def sOf (s : List Nat) : Str := ⟨s.toArray⟩
def SOk (s : List Nat) : Prop := ∀ c ∈ s, c < 1114112
theorem sOf_len (s : List Nat) : (sOf s).length = s.length := by simp [sOf, Str.length]
theorem sOf_app (s t : List Nat) : sOf s ++ sOf t = sOf (s ++ t) := by
  show (⟨s.toArray ++ t.toArray⟩ : Str) = ⟨(s ++ t).toArray⟩
  simp
theorem sOf_inj {s t : List Nat} (h : sOf s = sOf t) : s = t := by
  have h2 := congrArg (fun x : Str => x.cps.toList) h
  simpa [sOf] using h2

mutual
/-- v is the datum d; what stands in A0 never changes -/
inductive Rep (K : PySem.W.Frag) (A0 : Hp) : D → V → Prop where
  | non : Rep K A0 .non .non
  | bl (b : Bool) : Rep K A0 (.bl b) (.bl b)
  | int (i : Int) : Rep K A0 (.int i) (.int i)
  | str (s : List Nat) : SOk s → Rep K A0 (.str s) (.str (sOf s))
  | tup {a : Addr} {vs : List V} {ds : List D} : SqT K A0 a vs → Reps K A0 ds vs → Rep K A0 (.tup ds) (.ref a)
  | lst {a : Addr} {vs : List V} {ds : List D} : A0 a = some (.lst vs) → Reps K A0 ds vs → Rep K A0 (.lst ds) (.ref a)
  | scr {a : Addr} {ns : List Int} : SqL K A0 a (ns.map V.int) → Rep K A0 (.scr ns) (.ref a)
inductive Reps (K : PySem.W.Frag) (A0 : Hp) : List D → List V → Prop where
  | nil : Reps K A0 [] []
  | cons {d : D} {v : V} {ds : List D} {vs : List V} : Rep K A0 d v → Reps K A0 ds vs → Reps K A0 (d :: ds) (v :: vs)
end
theorem seqT_mono {K : PySem.W.Frag} {A0 A0' : Hp} {a : Addr} {xs : List V} (e : Same A0 A0') (h : SqT K A0 a xs) : SqT K A0' a xs := by
  rcases h with h | h
  · rcases h with h | ⟨o, h⟩
    · exact .inl (.inl (e _ _ h))
    · exact .inl (.inr ⟨o, e _ _ h⟩)
  · exact .inr h
section
variable {K : PySem.W.Frag} {A0 A0' : Hp}
mutual
theorem Rep.mono (e : Same A0 A0') : ∀ {d : D} {v : V}, Rep K A0 d v → Rep K A0' d v
  | _, _, .non => .non
  | _, _, .bl b => .bl b
  | _, _, .int i => .int i
  | _, _, .str s h => .str s h
  | _, _, .tup h hs => .tup (seqT_mono e h) (Reps.mono e hs)
  | _, _, .lst h hs => .lst (e _ _ h) (Reps.mono e hs)
  | _, _, .scr h => .scr (Same.seq e h)
theorem Reps.mono (e : Same A0 A0') : ∀ {ds : List D} {vs : List V}, Reps K A0 ds vs → Reps K A0' ds vs
  | _, _, .nil => .nil
  | _, _, .cons h hs => .cons (Rep.mono e h) (Reps.mono e hs)
end
theorem Reps.length : ∀ {ds : List D} {vs : List V}, Reps K A0 ds vs → ds.length = vs.length
  | _, _, .nil => rfl
  | _, _, .cons _ h => by rw [List.length_cons, List.length_cons, Reps.length h]
theorem Reps.append : ∀ {ds es : List D} {vs ws : List V}, Reps K A0 ds vs → Reps K A0 es ws → Reps K A0 (ds ++ es) (vs ++ ws)
  | _, _, _, _, .nil, s => s
  | _, _, _, _, .cons r t, s => .cons r (Reps.append t s)
theorem Reps.take : ∀ {ds : List D} {vs : List V} (n : Nat), Reps K A0 ds vs → Reps K A0 (ds.take n) (vs.take n)
  | _, _, 0, _ => .nil
  | _, _, _ + 1, .nil => .nil
  | _, _, n + 1, .cons r t => .cons r (Reps.take n t)
theorem Reps.drop : ∀ {ds : List D} {vs : List V} (n : Nat), Reps K A0 ds vs → Reps K A0 (ds.drop n) (vs.drop n)
  | _, _, 0, r => r
  | _, _, _ + 1, .nil => .nil
  | _, _, n + 1, .cons _ t => Reps.drop n t
theorem Reps.get : ∀ {ds : List D} {vs : List V} {i : Nat} {d : D}, Reps K A0 ds vs → ds[i]? = some d → ∃ v, vs[i]? = some v ∧ Rep K A0 d v
  | _, _, _, _, .nil, e => by simp at e
  | _, _, 0, _, .cons r _, e => by simp at e; subst e; exact ⟨_, rfl, r⟩
  | _, _, i + 1, x, .cons _ t, e => by
    obtain ⟨u, h1, h2⟩ := Reps.get (i := i) (d := x) t (by simpa using e)
    exact ⟨u, by simpa using h1, h2⟩
theorem Reps.set {d : D} {v : V} (r : Rep K A0 d v) : ∀ {ds : List D} {vs : List V} (i : Nat), Reps K A0 ds vs → Reps K A0 (ds.set i d) (vs.set i v)
  | _, _, _, .nil => .nil
  | _, _, 0, .cons _ t => .cons r t
  | _, _, i + 1, .cons q t => .cons q (Reps.set r i t)
theorem Reps.eraseIdx : ∀ {ds : List D} {vs : List V} (i : Nat), Reps K A0 ds vs → Reps K A0 (ds.eraseIdx i) (vs.eraseIdx i)
  | _, _, _, .nil => .nil
  | _, _, 0, .cons _ t => t
  | _, _, i + 1, .cons q t => .cons q (Reps.eraseIdx i t)
theorem Reps.rep {ds : List D} {vs : List V} (h : Reps K A0 ds vs) : ∀ k : Nat, Reps K A0 (List.replicate k ds).flatten (List.replicate k vs).flatten
  | 0 => .nil
  | k + 1 => by rw [List.replicate_succ, List.replicate_succ, List.flatten_cons, List.flatten_cons]; exact h.append (Reps.rep h k)
theorem Reps.cut {ds : List D} {vs : List V} (h : Reps K A0 ds vs) (lo hi : Option Int) : Reps K A0 (Z.cut ds lo hi) (cutV vs lo hi) := by
  have e : ∀ (n d : Nat) (o : Option Int), sx n d o = HT.sIx n d o := fun n d o => by cases o <;> rfl
  unfold Z.cut cutV
  rw [e, e, h.length]
  exact (h.drop _).take _
theorem Reps.ints : ∀ {ds : List D} {vs : List V} {ns : List Int}, Reps K A0 ds vs → intsOf ds = some ns → vs = ns.map V.int
  | _, _, ns, .nil, e => by cases e; rfl
  | .int i :: ds, _, ns, .cons (.int _) t, e => by
    simp only [intsOf] at e
    obtain ⟨ms, h1, h2⟩ := Option.map_eq_some_iff.mp e
    subst h2
    rw [List.map_cons, ← Reps.ints t h1]
  | .non :: _, _, _, .cons .non _, e => by simp [intsOf] at e
  | .bl _ :: _, _, _, .cons (.bl _) _, e => by simp [intsOf] at e
  | .str _ :: _, _, _, .cons (.str _ _) _, e => by simp [intsOf] at e
  | .tup _ :: _, _, _, .cons (.tup _ _) _, e => by simp [intsOf] at e
  | .lst _ :: _, _, _, .cons (.lst _ _) _, e => by simp [intsOf] at e
  | .scr _ :: _, _, _, .cons (.scr _) _, e => by simp [intsOf] at e
theorem Reps.bls : ∀ {ds : List D} {vs : List V} {ns : List Bool}, Reps K A0 ds vs → blsOf ds = some ns → vs = ns.map V.bl
  | _, _, ns, .nil, e => by cases e; rfl
  | .bl i :: ds, _, ns, .cons (.bl _) t, e => by
    simp only [blsOf] at e
    obtain ⟨ms, h1, h2⟩ := Option.map_eq_some_iff.mp e
    subst h2
    rw [List.map_cons, ← Reps.bls t h1]
  | .non :: _, _, _, .cons .non _, e => by simp [blsOf] at e
  | .int _ :: _, _, _, .cons (.int _) _, e => by simp [blsOf] at e
  | .str _ :: _, _, _, .cons (.str _ _) _, e => by simp [blsOf] at e
  | .tup _ :: _, _, _, .cons (.tup _ _) _, e => by simp [blsOf] at e
  | .lst _ :: _, _, _, .cons (.lst _ _) _, e => by simp [blsOf] at e
  | .scr _ :: _, _, _, .cons (.scr _) _, e => by simp [blsOf] at e
theorem Reps.strs : ∀ {ds : List D} {vs : List V} {ns : List (List Nat)}, Reps K A0 ds vs → strsOf ds = some ns → vs = ns.map (fun s => V.str (sOf s)) ∧ ∀ s ∈ ns, SOk s
  | _, _, ns, .nil, e => by cases e; exact ⟨rfl, by simp⟩
  | .str i :: ds, _, ns, .cons (.str _ ok) t, e => by
    simp only [strsOf] at e
    obtain ⟨ms, h1, h2⟩ := Option.map_eq_some_iff.mp e
    subst h2
    obtain ⟨q1, q2⟩ := Reps.strs t h1
    refine ⟨by rw [List.map_cons, ← q1], fun s hs => ?_⟩
    rcases List.mem_cons.mp hs with rfl | hs
    · exact ok
    · exact q2 s hs
  | .non :: _, _, _, .cons .non _, e => by simp [strsOf] at e
  | .int _ :: _, _, _, .cons (.int _) _, e => by simp [strsOf] at e
  | .bl _ :: _, _, _, .cons (.bl _) _, e => by simp [strsOf] at e
  | .tup _ :: _, _, _, .cons (.tup _ _) _, e => by simp [strsOf] at e
  | .lst _ :: _, _, _, .cons (.lst _ _) _, e => by simp [strsOf] at e
  | .scr _ :: _, _, _, .cons (.scr _) _, e => by simp [strsOf] at e
end

/-! ### slots -/
def isOw : Slot → Bool
  | .ow _ => true
  | .le _ => true
  | .lk _ _ => true
  | _ => false
def isPin : Slot → Bool
  | .le _ => true
  | .lf _ => true
  | .lk _ _ => true
  | _ => false
def PinTo : Slot → Slot → Prop
  | .le _, y => (∃ ds, y = .le ds) ∨ (∃ d, y = .lf d) ∨ ∃ ds, y = .lk true ds
  | .lf d, y => y = .lf d
  | .lk l ds, y => y = .lk l ds
  | _, _ => True
theorem PinTo.refl : ∀ {x : Slot}, PinTo x x
  | .no => trivial
  | .sh _ => trivial
  | .ow _ => trivial
  | .le ds => .inl ⟨ds, rfl⟩
  | .lf _ => rfl
  | .lk _ _ => rfl
theorem PinTo.pin {x y : Slot} (h : PinTo x y) (p : isPin x = true) : isPin y = true := by
  cases x with
  | le ds => rcases h with ⟨_, rfl⟩ | ⟨_, rfl⟩ | ⟨_, rfl⟩ <;> rfl
  | lf d => cases h; rfl
  | lk l ds => cases h; rfl
  | no => cases p
  | sh d => cases p
  | ow d => cases p
theorem PinTo.trans {x y z : Slot} (h : PinTo x y) (k : PinTo y z) : PinTo x z := by
  cases x with
  | le ds =>
    rcases h with ⟨_, rfl⟩ | ⟨_, rfl⟩ | ⟨_, rfl⟩
    · exact k
    · cases k; exact .inr (.inl ⟨_, rfl⟩)
    · cases k; exact .inr (.inr ⟨_, rfl⟩)
  | lf d => cases h; exact k
  | lk l ds => cases h; exact k
  | no => trivial
  | sh d => trivial
  | ow d => trivial
/-- what is pinned stays at its place -/
def Keep (s : S) (σ : List (Option V)) (s' : S) (σ' : List (Option V)) : Prop := ∀ (i : Nat) (x : Slot), s.e[i]? = some x → isPin x = true → σ'[i]? = σ[i]? ∧ ∃ x', s'.e[i]? = some x' ∧ PinTo x x'
theorem Keep.refl {s : S} {σ : List (Option V)} : Keep s σ s σ := fun i x h _ => ⟨rfl, x, h, .refl⟩
theorem Keep.trans {s s1 s2 : S} {σ σ1 σ2 : List (Option V)} (a : Keep s σ s1 σ1) (b : Keep s1 σ1 s2 σ2) : Keep s σ s2 σ2 := fun i x h p => by
  obtain ⟨e1, x1, h1, p1⟩ := a i x h p
  obtain ⟨e2, x2, h2, p2⟩ := b i x1 h1 (p1.pin p)
  exact ⟨e2.trans e1, x2, h2, p1.trans p2⟩

section
variable (K : PySem.W.Frag)
/-- a slot and what the model's slot holds -/
inductive RS (A0 H : Hp) : Slot → Option V → Prop where
  | no (o : Option V) : RS A0 H .no o
  | sh {d : D} {v : V} : Rep K A0 d v → RS A0 H (.sh d) (some v)
  | lf {d : D} {v : V} : Rep K A0 d v → RS A0 H (.lf d) (some v)
  | ow {a : Addr} {vs : List V} {ds : List D} : H a = some (.lst vs) → Reps K A0 ds vs → RS A0 H (.ow ds) (some (.ref a))
  | le {a : Addr} {vs : List V} {ds : List D} : H a = some (.lst vs) → Reps K A0 ds vs → RS A0 H (.le ds) (some (.ref a))
  | lk {l : Bool} {a : Addr} {vs : List V} {ds : List D} : H a = some (.lst vs) → Reps K A0 ds vs → RS A0 H (.lk l ds) (some (.ref a))
def Own (s : S) (σ : List (Option V)) (i : Nat) (a : Addr) : Prop := ∃ x, s.e[i]? = some x ∧ isOw x = true ∧ σ[i]? = some (some (.ref a))
structure R (A0 F : Hp) (s : S) (σ : List (Option V)) (H : Hp) : Prop where
  zh : Same A0 H
  fh : Same F H
  len : s.e.length = σ.length
  sl : ∀ (i : Nat) (x : Slot), s.e[i]? = some x → ∃ o, σ[i]? = some o ∧ RS K A0 H x o
  sep : ∀ i j a, Own s σ i a → Own s σ j a → i = j
  out : ∀ i a, Own s σ i a → A0 a = none ∧ F a = none
/-- A0 grows, not into F -/
structure Ext (A0 F A0' : Hp) : Prop where
  same : Same A0 A0'
  off : ∀ a, F a ≠ none → A0' a = A0 a
/-- an expression's result -/
def RV (A0 F : Hp) (s : S) (σ : List (Option V)) (H : Hp) (v : V) : Rv → Prop
  | .v d => Rep K A0 d v
  | .o ds => ∃ a vs, v = .ref a ∧ H a = some (.lst vs) ∧ Reps K A0 ds vs ∧ A0 a = none ∧ F a = none ∧ ∀ i, ¬ Own s σ i a
  | .b i => σ[i]? = some (some v)
end
theorem Ext.refl {A0 F : Hp} : Ext A0 F A0 := ⟨Same.refl _, fun _ _ => rfl⟩
theorem Ext.trans {A0 F Z1 Z2 : Hp} (a : Ext A0 F Z1) (b : Ext Z1 F Z2) : Ext A0 F Z2 := ⟨a.same.trans b.same, fun x h => (b.off x h).trans (a.off x h)⟩
theorem Ext.sub {A0 F F' A0' : Hp} (h : ∀ a, F a ≠ none → F' a ≠ none) (e : Ext A0 F' A0') : Ext A0 F A0' := ⟨e.same, fun a p => e.off a (h a p)⟩
section
variable {K : PySem.W.Frag} {A0 F A0' H H' : Hp} {s s' : S} {σ σ' : List (Option V)}
theorem same_upd {a : Addr} {o : HO} (h : A0 a = none) : Same A0 (upd A0 a o) := fun b x e => by
  rw [upd_ne (ne_of_none e h)]; exact e
theorem RS.mono {x : Slot} {o : Option V} (z : Same A0 A0') (h : RS K A0 H x o) (k : ∀ a, isOw x = true → o = some (.ref a) → H' a = H a) : RS K A0' H' x o := by
  cases h with
  | no => exact .no _
  | sh r => exact .sh (r.mono z)
  | lf r => exact .lf (r.mono z)
  | ow e r => exact .ow ((k _ rfl rfl).trans e) (r.mono z)
  | le e r => exact .le ((k _ rfl rfl).trans e) (r.mono z)
  | lk e r => exact .lk ((k _ rfl rfl).trans e) (r.mono z)
/-- the heap and A0 grow by what is new -/
theorem R.grow (r : R K A0 F s σ H) {a : Addr} {o : HO} (h : H a = none) : R K (upd A0 a o) F s σ (upd H a o) := by
  have za : A0 a = none := by
    cases e : A0 a with
    | none => rfl
    | some x => rw [r.zh _ _ e] at h; cases h
  have ow : ∀ i b, Own s σ i b → b ≠ a := fun i b hb => by
    obtain ⟨x, e, p, q⟩ := hb
    obtain ⟨o', e2, rs⟩ := r.sl i x e
    rw [q] at e2; cases e2
    cases rs with
    | no => cases p
    | sh => cases p
    | lf => cases p
    | ow e3 _ => exact ne_of_none e3 h
    | le e3 _ => exact ne_of_none e3 h
    | lk e3 _ => exact ne_of_none e3 h
  refine ⟨fun b x e => ?_, fun b x e => ?_, r.len, fun i x e => ?_, r.sep, fun i b hb => ?_⟩
  · by_cases hb : b = a
    · subst hb; rw [upd_same] at e ⊢; exact e
    · rw [upd_ne hb] at e ⊢; exact r.zh _ _ e
  · have := r.fh _ _ e
    rw [upd_ne (ne_of_none this h)]; exact this
  · obtain ⟨o', e2, rs⟩ := r.sl i x e
    refine ⟨o', e2, rs.mono (same_upd za) fun b p q => ?_⟩
    subst q
    exact upd_ne (ow i b ⟨x, e, p, e2⟩)
  · rw [upd_ne (ow i b hb)]; exact r.out i b hb
/-- the heap alone grows -/
theorem R.growH (r : R K A0 F s σ H) {a : Addr} {o : HO} (h : H a = none) : R K A0 F s σ (upd H a o) := by
  have ow : ∀ i b, Own s σ i b → b ≠ a := fun i b hb => by
    obtain ⟨x, e, p, q⟩ := hb
    obtain ⟨o', e2, rs⟩ := r.sl i x e
    rw [q] at e2; cases e2
    cases rs with
    | no => cases p
    | sh => cases p
    | lf => cases p
    | ow e3 _ => exact ne_of_none e3 h
    | le e3 _ => exact ne_of_none e3 h
    | lk e3 _ => exact ne_of_none e3 h
  refine ⟨fun b x e => ?_, fun b x e => ?_, r.len, fun i x e => ?_, r.sep, r.out⟩
  · have := r.zh _ _ e
    rw [upd_ne (ne_of_none this h)]; exact this
  · have := r.fh _ _ e
    rw [upd_ne (ne_of_none this h)]; exact this
  · obtain ⟨o', e2, rs⟩ := r.sl i x e
    refine ⟨o', e2, rs.mono (Same.refl _) fun b p q => ?_⟩
    subst q
    exact upd_ne (ow i b ⟨x, e, p, e2⟩)
theorem R.none_of (r : R K A0 F s σ H) {a : Addr} (h : H a = none) : A0 a = none ∧ F a = none ∧ ∀ i, ¬ Own s σ i a := by
  refine ⟨r.zh.free h, r.fh.free h, fun i hb => ?_⟩
  obtain ⟨x, e, p, q⟩ := hb
  obtain ⟨o', e2, rs⟩ := r.sl i x e
  rw [q] at e2; cases e2
  cases rs with
  | no => cases p
  | sh => cases p
  | lf => cases p
  | ow e3 _ => rw [h] at e3; cases e3
  | le e3 _ => rw [h] at e3; cases e3
  | lk e3 _ => rw [h] at e3; cases e3
/-- a list of nobody's is fixed -/
theorem R.fixO (r : R K A0 F s σ H) {a : Addr} {vs : List V} (h : H a = some (.lst vs)) (z : A0 a = none) (o : ∀ i, ¬ Own s σ i a) : R K (upd A0 a (.lst vs)) F s σ H := by
  refine ⟨fun b x e => ?_, r.fh, r.len, fun i x e => ?_, r.sep, fun i b hb => ?_⟩
  · by_cases hb : b = a
    · subst hb; rw [upd_same] at e; cases e; exact h
    · rw [upd_ne hb] at e; exact r.zh _ _ e
  · obtain ⟨o', e2, rs⟩ := r.sl i x e
    exact ⟨o', e2, rs.mono (same_upd z) fun _ _ _ => rfl⟩
  · have hn : b ≠ a := fun q => by subst q; exact o i hb
    rw [upd_ne hn]; exact r.out i b hb
theorem Ext.fix {a : Addr} {o : HO} (z : A0 a = none) (f : F a = none) : Ext A0 F (upd A0 a o) := ⟨same_upd z, fun b hb => upd_ne fun q => by subst q; exact hb f⟩
theorem getElem?_set_some {α : Type} {l : List α} {i j : Nat} {x y : α} (h : (l.set i x)[j]? = some y) : (i = j ∧ y = x ∧ i < l.length) ∨ (i ≠ j ∧ l[j]? = some y) := by
  by_cases e : i = j
  · subst e
    by_cases hi : i < l.length
    · rw [List.getElem?_set_self hi] at h; cases h; exact .inl ⟨rfl, rfl, hi⟩
    · rw [List.getElem?_eq_none (by simpa using hi)] at h; cases h
  · rw [List.getElem?_set_ne e] at h; exact .inr ⟨e, h⟩
/-- a slot is set anew: value and slot together -/
theorem R.put (r : R K A0 F s σ H) {i : Nat} {x : Slot} {v : V} (rs : RS K A0 H x (some v)) (no : isOw x = true → ∀ a, v = .ref a → A0 a = none ∧ F a = none ∧ ∀ j, j ≠ i → ¬ Own s σ j a) : R K A0 F ⟨s.e.set i x⟩ (σ.set i (some v)) H := by
  have ow : ∀ j a, Own ⟨s.e.set i x⟩ (σ.set i (some v)) j a → (j = i ∧ isOw x = true ∧ v = .ref a) ∨ (j ≠ i ∧ Own s σ j a) := fun j a ⟨y, e, p, q⟩ => by
    rcases getElem?_set_some e with ⟨rfl, rfl, hi⟩ | ⟨hn, e⟩
    · have hi' : i < σ.length := by rw [← r.len]; exact hi
      rw [List.getElem?_set_self hi'] at q
      exact .inl ⟨rfl, p, Option.some.inj (Option.some.inj q)⟩
    · rw [List.getElem?_set_ne hn] at q
      exact .inr ⟨Ne.symm hn, y, e, p, q⟩
  refine ⟨r.zh, r.fh, by simp [r.len], fun j y e => ?_, fun j k a hj hk => ?_, fun j a hj => ?_⟩
  · rcases getElem?_set_some e with ⟨rfl, rfl, hi⟩ | ⟨hn, e⟩
    · have hi' : i < σ.length := by rw [← r.len]; exact hi
      exact ⟨some v, List.getElem?_set_self hi', rs⟩
    · obtain ⟨o', e2, rs'⟩ := r.sl j y e
      exact ⟨o', by rw [List.getElem?_set_ne hn]; exact e2, rs'⟩
  · rcases ow j a hj with ⟨rfl, p, ev⟩ | ⟨nj, oj⟩
    · rcases ow k a hk with ⟨rfl, _, _⟩ | ⟨nk, ok⟩
      · rfl
      · exact absurd ok ((no p a ev).2.2 k nk)
    · rcases ow k a hk with ⟨rfl, p, ev⟩ | ⟨nk, ok⟩
      · exact absurd oj ((no p a ev).2.2 j nj)
      · exact r.sep j k a oj ok
  · rcases ow j a hj with ⟨rfl, p, ev⟩ | ⟨nj, oj⟩
    · exact ⟨(no p a ev).1, (no p a ev).2.1⟩
    · exact r.out j a oj
/-- a slot is told otherwise, the model's slot stays -/
theorem R.tell (r : R K A0 F s σ H) {i : Nat} {x : Slot} (rs : ∀ o, σ[i]? = some o → RS K A0 H x o) (no : isOw x = true → ∀ a, σ[i]? = some (some (.ref a)) → A0 a = none ∧ F a = none ∧ ∀ j, j ≠ i → ¬ Own s σ j a) : R K A0 F ⟨s.e.set i x⟩ σ H := by
  have ow : ∀ j a, Own ⟨s.e.set i x⟩ σ j a → (j = i ∧ isOw x = true ∧ σ[i]? = some (some (.ref a))) ∨ (j ≠ i ∧ Own s σ j a) := fun j a ⟨y, e, p, q⟩ => by
    rcases getElem?_set_some e with ⟨rfl, rfl, hi⟩ | ⟨hn, e⟩
    · exact .inl ⟨rfl, p, q⟩
    · exact .inr ⟨Ne.symm hn, y, e, p, q⟩
  refine ⟨r.zh, r.fh, by simp [r.len], fun j y e => ?_, fun j k a hj hk => ?_, fun j a hj => ?_⟩
  · rcases getElem?_set_some e with ⟨rfl, rfl, hi⟩ | ⟨hn, e⟩
    · have hi' : i < σ.length := by rw [← r.len]; exact hi
      exact ⟨σ[i], by simp [hi'], rs _ (by simp [hi'])⟩
    · exact r.sl j y e
  · rcases ow j a hj with ⟨rfl, p, ev⟩ | ⟨nj, oj⟩
    · rcases ow k a hk with ⟨rfl, _, _⟩ | ⟨nk, ok⟩
      · rfl
      · exact absurd ok ((no p a ev).2.2 k nk)
    · rcases ow k a hk with ⟨rfl, p, ev⟩ | ⟨nk, ok⟩
      · exact absurd oj ((no p a ev).2.2 j nj)
      · exact r.sep j k a oj ok
  · rcases ow j a hj with ⟨rfl, p, ev⟩ | ⟨nj, oj⟩
    · exact ⟨(no p a ev).1, (no p a ev).2.1⟩
    · exact r.out j a oj
/-- an owner's list: its place, its items -/
theorem R.owns (r : R K A0 F s σ H) {i : Nat} {x : Slot} (e : s.e[i]? = some x) (p : isOw x = true) : ∃ a vs ds, σ[i]? = some (some (.ref a)) ∧ Own s σ i a ∧ H a = some (.lst vs) ∧ Reps K A0 ds vs ∧ (x = .ow ds ∨ x = .le ds ∨ ∃ l, x = .lk l ds) := by
  obtain ⟨o, e2, rs⟩ := r.sl i x e
  cases rs with
  | no => cases p
  | sh => cases p
  | lf => cases p
  | ow h1 h2 => exact ⟨_, _, _, e2, ⟨_, e, p, e2⟩, h1, h2, .inl rfl⟩
  | le h1 h2 => exact ⟨_, _, _, e2, ⟨_, e, p, e2⟩, h1, h2, .inr (.inl rfl)⟩
  | lk h1 h2 => exact ⟨_, _, _, e2, ⟨_, e, p, e2⟩, h1, h2, .inr (.inr ⟨_, rfl⟩)⟩
/-- a slot's list is fixed -/
theorem R.fixS (r : R K A0 F s σ H) {i : Nat} {x y : Slot} {ds : List D} (e : s.e[i]? = some x) (hx : x = .ow ds ∨ x = .le ds) (hy : y = .sh (.lst ds) ∨ y = .lf (.lst ds)) :
    ∃ a vs, σ[i]? = some (some (.ref a)) ∧ H a = some (.lst vs) ∧ A0 a = none ∧ F a = none ∧ R K (upd A0 a (.lst vs)) F ⟨s.e.set i y⟩ σ H ∧ Rep K (upd A0 a (.lst vs)) (.lst ds) (.ref a) := by
  have p : isOw x = true := by rcases hx with rfl | rfl <;> rfl
  obtain ⟨a, vs, ds', e2, ho, h1, h2, h3⟩ := r.owns e p
  have ed : ds' = ds := by
    rcases hx with rfl | rfl <;> rcases h3 with h3 | h3 | ⟨l, h3⟩ <;> first | (cases h3; done) | (injection h3 with h3; exact h3.symm)
  subst ed
  obtain ⟨za, fa⟩ := r.out i a ho
  have rp : Rep K (upd A0 a (.lst vs)) (.lst ds') (.ref a) := .lst upd_same (h2.mono (same_upd za))
  refine ⟨a, vs, e2, h1, za, fa, ?_, rp⟩
  have r1 : R K A0 F ⟨s.e.set i .no⟩ σ H := r.tell (fun _ _ => .no _) (fun q => by cases q)
  have n1 : ∀ j, ¬ Own ⟨s.e.set i .no⟩ σ j a := fun j ⟨z, ez, pz, qz⟩ => by
    rcases getElem?_set_some ez with ⟨_, rfl, _⟩ | ⟨hn, ez⟩
    · cases pz
    · exact hn (r.sep i j a ho ⟨z, ez, pz, qz⟩)
  have r2 := r1.fixO h1 za n1
  have r3 := r2.tell (i := i) (x := y) (fun o q => by
    rw [e2] at q; cases q
    rcases hy with rfl | rfl
    · exact .sh rp
    · exact .lf rp) (fun q => by rcases hy with rfl | rfl <;> cases q)
  simpa using r3
/-- a slot's list is changed -/
theorem R.mut (r : R K A0 F s σ H) {i : Nat} {x y : Slot} {ds ds' : List D} {a : Addr} {vs' : List V} (e : s.e[i]? = some x) (hx : (x = .ow ds ∧ y = .ow ds') ∨ (x = .le ds ∧ y = .le ds')) (ha : σ[i]? = some (some (.ref a))) (rs : Reps K A0 ds' vs') :
    R K A0 F ⟨s.e.set i y⟩ σ (upd H a (.lst vs')) := by
  have p : isOw x = true := by rcases hx with ⟨rfl, _⟩ | ⟨rfl, _⟩ <;> rfl
  have ho : Own s σ i a := ⟨x, e, p, ha⟩
  obtain ⟨za, fa⟩ := r.out i a ho
  have hi : i < s.e.length := (List.getElem?_eq_some_iff.mp e).1
  have ow : ∀ j b, Own ⟨s.e.set i y⟩ σ j b → Own s σ j b := fun j b ⟨z, ez, pz, qz⟩ => by
    rcases getElem?_set_some ez with ⟨rfl, rfl, _⟩ | ⟨hn, ez⟩
    · rw [ha] at qz; cases qz; exact ho
    · exact ⟨z, ez, pz, qz⟩
  refine ⟨fun b o q => ?_, fun b o q => ?_, by simp [r.len], fun j z ez => ?_, fun j k b h1 h2 => r.sep j k b (ow _ _ h1) (ow _ _ h2), fun j b h1 => r.out j b (ow _ _ h1)⟩
  · rw [upd_ne (ne_of_none q za)]; exact r.zh _ _ q
  · rw [upd_ne (ne_of_none q fa)]; exact r.fh _ _ q
  · rcases getElem?_set_some ez with ⟨rfl, rfl, _⟩ | ⟨hn, ez⟩
    · refine ⟨_, ha, ?_⟩
      rcases hx with ⟨_, rfl⟩ | ⟨_, rfl⟩
      · exact .ow upd_same rs
      · exact .le upd_same rs
    · obtain ⟨o, e2, rs2⟩ := r.sl j z ez
      refine ⟨o, e2, rs2.mono (Same.refl _) fun b pz q => ?_⟩
      subst q
      exact upd_ne fun q => hn (by subst q; exact r.sep i j _ ho ⟨z, ez, pz, e2⟩)
/-- some slots are forgotten -/
theorem R.forget (r : R K A0 F s σ H) (hl : s'.e.length = σ'.length) (h : ∀ (i : Nat) (x : Slot), s'.e[i]? = some x → x = .no ∨ (s.e[i]? = some x ∧ σ'[i]? = σ[i]?)) : R K A0 F s' σ' H := by
  have ow : ∀ j b, Own s' σ' j b → Own s σ j b := fun j b ⟨z, ez, pz, qz⟩ => by
    rcases h j z ez with rfl | ⟨e1, e2⟩
    · cases pz
    · exact ⟨z, e1, pz, e2.symm.trans qz⟩
  refine ⟨r.zh, r.fh, hl, fun i x e => ?_, fun j k b h1 h2 => r.sep j k b (ow _ _ h1) (ow _ _ h2), fun j b h1 => r.out j b (ow _ _ h1)⟩
  rcases h i x e with rfl | ⟨e1, e2⟩
  · have hi : i < σ'.length := by rw [← hl]; exact (List.getElem?_eq_some_iff.mp e).1
    exact ⟨σ'[i], by simp [hi], .no _⟩
  · obtain ⟨o, e3, rs⟩ := r.sl i x e1
    exact ⟨o, e2.trans e3, rs⟩
/-- what is read now: fixed, or a list that stands as it is -/
def Rd (K : PySem.W.Frag) (A0 H : Hp) (d : D) (v : V) : Prop := Rep K A0 d v ∨ ∃ a vs ds, v = .ref a ∧ d = .lst ds ∧ H a = some (.lst vs) ∧ Reps K A0 ds vs
theorem R.cntS (r : R K A0 F s σ H) {i : Nat} {d : D} {v : V} (c : Z.cntS s i = some d) (e : σ[i]? = some (some v)) : Rd K A0 H d v := by
  unfold Z.cntS at c
  cases q : s.e[i]? with
  | none => rw [q] at c; cases c
  | some x =>
    rw [q] at c
    obtain ⟨o, e2, rs⟩ := r.sl i x q
    rw [e] at e2; cases e2
    cases rs with
    | no => cases c
    | sh h => cases c; exact .inl h
    | lf h => cases c; exact .inl h
    | ow h1 h2 => cases c; exact .inr ⟨_, _, _, rfl, rfl, h1, h2⟩
    | le h1 h2 => cases c; exact .inr ⟨_, _, _, rfl, rfl, h1, h2⟩
    | lk h1 h2 => cases c; exact .inr ⟨_, _, _, rfl, rfl, h1, h2⟩
theorem R.cnt (r : R K A0 F s σ H) {rv : Rv} {d : D} {v : V} (c : Z.cnt s rv = some d) (h : RV K A0 F s σ H v rv) : Rd K A0 H d v := by
  cases rv with
  | v d' => cases c; exact .inl h
  | o ds => obtain ⟨a, vs, rfl, h1, h2, _⟩ := h; cases c; exact .inr ⟨a, vs, ds, rfl, rfl, h1, h2⟩
  | b i => exact r.cntS c h
end
end Z

/-! Z: operators, comparisons, subscripts, built-ins by values. -/
namespace Z
open PySem PySem.Spec PyProof.Rows L2

section
variable {K : PySem.W.Frag} {A0 H : Hp} {v : V}
theorem Rd.non (h : Rd K A0 H .non v) : v = .non := by
  rcases h with h | ⟨_, _, _, _, e, _⟩
  · cases h; rfl
  · cases e
theorem Rd.bl {b : Bool} (h : Rd K A0 H (.bl b) v) : v = .bl b := by
  rcases h with h | ⟨_, _, _, _, e, _⟩
  · cases h; rfl
  · cases e
theorem Rd.int {i : Int} (h : Rd K A0 H (.int i) v) : v = .int i := by
  rcases h with h | ⟨_, _, _, _, e, _⟩
  · cases h; rfl
  · cases e
theorem Rd.str {s : List Nat} (h : Rd K A0 H (.str s) v) : v = .str (sOf s) ∧ SOk s := by
  rcases h with h | ⟨_, _, _, _, e, _⟩
  · cases h with | str _ ok => exact ⟨rfl, ok⟩
  · cases e
theorem Rd.tup {ds : List D} (z : Same A0 H) (h : Rd K A0 H (.tup ds) v) : ∃ a vs, v = .ref a ∧ SqT K H a vs ∧ Reps K A0 ds vs := by
  rcases h with h | ⟨_, _, _, _, e, _⟩
  · cases h with | tup h1 h2 => exact ⟨_, _, rfl, seqT_mono z h1, h2⟩
  · cases e
theorem Rd.lst {ds : List D} (z : Same A0 H) (h : Rd K A0 H (.lst ds) v) : ∃ a vs, v = .ref a ∧ H a = some (.lst vs) ∧ Reps K A0 ds vs := by
  rcases h with h | ⟨a, vs, ds', rfl, e, h1, h2⟩
  · cases h with | lst h1 h2 => exact ⟨_, _, rfl, z _ _ h1, h2⟩
  · cases e; exact ⟨a, vs, rfl, h1, h2⟩
theorem Rd.scr {ns : List Int} (z : Same A0 H) (h : Rd K A0 H (.scr ns) v) : ∃ a, v = .ref a ∧ SqL K H a (ns.map V.int) := by
  rcases h with h | ⟨_, _, _, _, e, _⟩
  · cases h with | scr h1 => exact ⟨_, rfl, z.seq h1⟩
  · cases e
end

/-- the heap as it is, or one new thing in it that stays -/
inductive Gro (A0 H : Hp) : Hp → Hp → Prop where
  | same : Gro A0 H A0 H
  | new {a : Addr} {o : HO} : H a = none → Gro A0 H (upd A0 a o) (upd H a o)
/-- a value that an operator gives -/
def New (K : PySem.W.Frag) (A0 H : Hp) (r : Rv) (Q : VK) : Prop := match r with
  | .v d => ∀ v A1 H1, Gro A0 H A1 H1 → Rep K A1 d v → Q v H1
  | .o ds => ∀ a vs, H a = none → Reps K A0 ds vs → Q (.ref a) (upd H a (.lst vs))
  | .b _ => False
theorem New.at {K : PySem.W.Frag} {A0 H : Hp} {d : D} {Q : VK} (h : New K A0 H (.v d) Q) {v : V} (r : Rep K A0 d v) : Q v H := h v A0 H .same r
theorem sub_nil {α : Type} {l : List α} (h : l.length = 0) : l = [] := List.eq_nil_of_length_eq_zero h

def bop : BOp → Operator
  | .add => .Add | .sub => .Sub | .mul => .Mult | .fdiv => .FloorDiv | .mod => .Mod | .pow => .Pow | .shl => .LShift | .shr => .RShift | .band => .BitAnd | .bor => .BitOr | .bxor => .BitXor
def rBin (K : PySem.W.Frag) (o : BOp) : R2 := fun x y H Q => ∃ d e A0 r, Same A0 H ∧ Rd K A0 H d x ∧ Rd K A0 H e y ∧ binR o d e = some r ∧ New K A0 H r Q
theorem intR_some {c : Int → Int → Bool} {f : Int → Int → Int} {d e : D} {r : Rv} (h : intR c f d e = some r) : ∃ i j, d = .int i ∧ e = .int j ∧ c i j = true ∧ r = .v (.int (f i j)) := by
  unfold intR at h
  split at h
  · split at h
    · cases h; exact ⟨_, _, rfl, rfl, by assumption, rfl⟩
    · cases h
  · cases h
theorem SOk.append {s t : List Nat} (a : SOk s) (b : SOk t) : SOk (s ++ t) := fun c h => by
  rcases List.mem_append.mp h with h | h
  · exact a c h
  · exact b c h
theorem SOk.sub {s t : List Nat} (a : SOk s) (h : ∀ c ∈ t, c ∈ s) : SOk t := fun c q => a c (h c q)
theorem SOk.rep {s : List Nat} (a : SOk s) (k : Nat) : SOk (rep k s) := fun c h => by
  unfold Z.rep at h
  obtain ⟨l, h1, h2⟩ := List.mem_flatten.mp h
  obtain ⟨_, rfl⟩ := List.mem_replicate.mp h1
  exact a c h2
theorem SOk.cut {s : List Nat} (a : SOk s) (lo hi : Option Int) : SOk (cut s lo hi) := a.sub fun c h => by
  unfold Z.cut at h
  exact List.mem_of_mem_drop (List.mem_of_mem_take h)
section
variable {X : Cx}
theorem foldl_app (l : List (Array Nat)) : ∀ acc : Array Nat, (l.foldl (· ++ ·) acc).toList = acc.toList ++ (l.map (·.toList)).flatten := by
  induction l with
  | nil => intro acc; simp
  | cons x xs ih => intro acc; rw [List.foldl_cons, ih]; simp
theorem op_mul_str : OpR X (binaryOp .Mult) (fun x y H Q => ∃ s k, x = .str (sOf s) ∧ y = .int k ∧ -9223372036854775808 ≤ k ∧ k < 9223372036854775808 ∧ s.length * k.toNat ≤ SZ ∧ Q (.str (sOf (rep k.toNat s))) H) := by
  intro pins s σ H x y v u Q I rx ry h
  obtain ⟨z, k, rfl, rfl, h1, h2, h3, q⟩ := h
  obtain ⟨t, rfl⟩ := rx
  obtain ⟨t', rfl⟩ := ry
  have hz : (sOf z).length = z.length := sOf_len z
  refine PySem.SB.mul ⟨?_, fun hk hn => ?_, fun hk hn => ?_⟩ fun t2 tk => ⟨.str (Txt.mul (sOf z) k), H, I.tok tk, ⟨t2, rfl⟩, ?_⟩
  · have e63 : (2 ^ 63 : Int) = 9223372036854775808 := by decide
    rw [e63, decide_eq_false (by omega), decide_eq_false (by omega)]; rfl
  · rw [hz]
    have hle : z.length * k.toNat ≤ 16777216 := h3
    have hk1 : (0 : Int) < k := by omega
    have : (z.length : Int) * k ≤ 16777216 := by
      have e : ((z.length * k.toNat : Nat) : Int) = (z.length : Int) * k := by
        rw [Int.natCast_mul, Int.toNat_of_nonneg (by omega)]
      rw [← e]; omega
    have h4 : (z.length : Int) * k ≤ 9223372036854775807 := Int.le_trans this (by decide)
    have h5 := (Int.le_ediv_iff_mul_le hk1).mpr h4
    have e2 : (2 ^ 63 - 1 : Int) = 9223372036854775807 := by decide
    rw [e2]; omega
  · rw [hz]
    refine decide_eq_false ?_
    have h6 : z.length * k.toNat ≤ 16777216 := h3
    rw [sizeLine_eq]
    exact Nat.not_lt.mpr h6
  · have e : Txt.mul (sOf z) k = sOf (rep k.toNat z) := by
      unfold Txt.mul
      by_cases hk : k < 1
      · rw [if_pos hk]
        have : k.toNat = 0 := by omega
        rw [this]; rfl
      · rw [if_neg hk]
        by_cases hn : (k == 1 || (sOf z).length == 0) = true
        · rw [if_pos hn]
          rcases Bool.or_eq_true_iff.mp hn with e | e
          · have : k.toNat = 1 := by have := eq_of_beq e; omega
            rw [this]
            show sOf z = sOf (rep 1 z)
            simp [Z.rep]
          · have e := eq_of_beq e
            rw [hz] at e
            have : z = [] := List.eq_nil_of_length_eq_zero e
            subst this
            simp [Z.rep]
        · rw [if_neg hn]
          refine Str.ext' (Array.toList_inj.mp ?_)
          show (List.foldl (fun x1 x2 => x1 ++ x2) #[] (List.replicate k.toNat (sOf z).cps)).toList = (rep k.toNat z).toArray.toList
          rw [foldl_app]
          simp [Z.rep, sOf]
    rw [e]; exact q
theorem szl {n : Nat} (h : n ≤ SZ) : n ≤ sizeLine := by rw [sizeLine_eq]; exact h
theorem szl' {n : Nat} (h : n ≤ sizeLine) : n ≤ SZ := by rw [sizeLine_eq] at h; exact h
theorem okI_iff {k : Int} (h : okI k = true) : -9223372036854775808 ≤ k ∧ k < 9223372036854775808 := by
  unfold okI at h
  rw [decide_eq_true_eq] at h
  omega
theorem bitAnd_pos {i j : Int} (h : 0 ≤ i) (k : 0 ≤ j) : PySem.Builtin.bitAnd i j = ((i.toNat &&& j.toNat : Nat) : Int) := by
  unfold PySem.Builtin.bitAnd
  rw [decide_eq_true h, decide_eq_true k]
theorem and_le_l (a b : Nat) : a &&& b ≤ a := Nat.and_le_left
theorem or_and (a b : Nat) : (a ||| b) + (a &&& b) = a + b := by
  induction a using Nat.strongRecOn generalizing b with
  | _ a ih =>
    by_cases h : a = 0
    · subst h; simp
    · have e1 : (a ||| b) = 2 * ((a / 2) ||| (b / 2)) + (a % 2 ||| b % 2) := by
        have h1 : (a ||| b) / 2 = a / 2 ||| b / 2 := Nat.or_div_two
        have h2 : (a ||| b) % 2 = a % 2 ||| b % 2 := by
          have := Nat.or_mod_two_pow (a := a) (b := b) (n := 1)
          simpa using this
        omega
      have e2 : (a &&& b) = 2 * ((a / 2) &&& (b / 2)) + (a % 2 &&& b % 2) := by
        have h1 : (a &&& b) / 2 = a / 2 &&& b / 2 := Nat.and_div_two
        have h2 : (a &&& b) % 2 = a % 2 &&& b % 2 := by
          have := Nat.and_mod_two_pow (a := a) (b := b) (n := 1)
          simpa using this
        omega
      have e3 := ih (a / 2) (by omega) (b / 2)
      have e4 : (a % 2 ||| b % 2) + (a % 2 &&& b % 2) = a % 2 + b % 2 := by
        rcases Nat.mod_two_eq_zero_or_one a with p | p <;> rcases Nat.mod_two_eq_zero_or_one b with q | q <;> rw [p, q] <;> rfl
      omega
theorem xor_and (a b : Nat) : (a ^^^ b) + 2 * (a &&& b) = a + b := by
  induction a using Nat.strongRecOn generalizing b with
  | _ a ih =>
    by_cases h : a = 0
    · subst h; simp
    · have e1 : (a ^^^ b) = 2 * ((a / 2) ^^^ (b / 2)) + (a % 2 ^^^ b % 2) := by
        have h1 : (a ^^^ b) / 2 = a / 2 ^^^ b / 2 := Nat.xor_div_two
        have h2 : (a ^^^ b) % 2 = a % 2 ^^^ b % 2 := by
          have := Nat.xor_mod_two_pow (a := a) (b := b) (n := 1)
          simpa using this
        omega
      have e2 : (a &&& b) = 2 * ((a / 2) &&& (b / 2)) + (a % 2 &&& b % 2) := by
        have h1 : (a &&& b) / 2 = a / 2 &&& b / 2 := Nat.and_div_two
        have h2 : (a &&& b) % 2 = a % 2 &&& b % 2 := by
          have := Nat.and_mod_two_pow (a := a) (b := b) (n := 1)
          simpa using this
        omega
      have e3 := ih (a / 2) (by omega) (b / 2)
      have e4 : (a % 2 ^^^ b % 2) + 2 * (a % 2 &&& b % 2) = a % 2 + b % 2 := by
        rcases Nat.mod_two_eq_zero_or_one a with p | p <;> rcases Nat.mod_two_eq_zero_or_one b with q | q <;> rw [p, q] <;> rfl
      omega
theorem bitXor_pos {i j : Int} (h : 0 ≤ i) (k : 0 ≤ j) : PySem.Builtin.bitXor i j = ((i.toNat ^^^ j.toNat : Nat) : Int) := by
  rw [bitXor_and, bitAnd_pos h k]
  have := xor_and i.toNat j.toNat
  omega
theorem bitOr_pos {i j : Int} (h : 0 ≤ i) (k : 0 ≤ j) : PySem.Builtin.bitOr i j = ((i.toNat ||| j.toNat : Nat) : Int) := by
  have e : PySem.Builtin.bitOr i j = PySem.Builtin.bitXor i j + PySem.Builtin.bitAnd i j := by unfold PySem.Builtin.bitXor; omega
  rw [e, bitXor_pos h k, bitAnd_pos h k]
  have := xor_and i.toNat j.toNat
  have := or_and i.toNat j.toNat
  omega
theorem op_any (o : BOp) : OpR X (binaryOp (bop o)) (rBin X.K o) := by
  intro pins s σ H x y v u Q I rx ry h
  obtain ⟨d, e, A0, r, zh, hd, he, hb, hq⟩ := h
  cases o with
  | add =>
    replace hb : addR d e = some r := hb
    unfold addR at hb
    split at hb
    · cases hb
      exact op_add pins s σ H x y v u Q I rx ry ⟨_, _, hd.int, he.int, hq.at (.int _)⟩
    · split at hb
      · cases hb
        obtain ⟨e1, o1⟩ := hd.str
        obtain ⟨e2, o2⟩ := he.str
        refine op_add_str pins s σ H x y v u Q I rx ry ⟨_, _, e1, e2, ?_, ?_⟩
        · rw [sOf_len, sOf_len]; exact szl (by assumption)
        · rw [sOf_app]; exact hq.at (.str _ (o1.append o2))
      · cases hb
    · split at hb
      · cases hb
        obtain ⟨a, vs, e1, h1, r1⟩ := hd.lst zh
        obtain ⟨b, ws, e2, h2, r2⟩ := he.lst zh
        refine op_cat pins s σ H x y v u Q I rx ry ⟨a, b, vs, ws, e1, e2, h1, h2, ?_, fun p hp => hq p _ hp (r1.append r2)⟩
        rw [← r1.length, ← r2.length]; exact szl (by assumption)
      · cases hb
    · rename_i A B
      split at hb
      · cases hb
        obtain ⟨a, vs, e1, h1, r1⟩ := hd.tup zh
        obtain ⟨b, ws, e2, h2, r2⟩ := he.tup zh
        subst e1 e2
        refine op_catA pins s σ H _ _ v u Q I rx ry ⟨a, b, vs, ws, rfl, rfl, h1, h2, ?_, fun e0 => ?_, fun _ e0 => ?_, fun _ _ p hp => ?_⟩
        · rw [← r1.length, ← r2.length]; exact szl (by assumption)
        · subst e0
          have e9 : A = [] := sub_nil r1.length
          subst e9
          rcases he with he | ⟨_, _, _, _, e, _⟩
          · exact hq.at (by simpa using he)
          · cases e
        · subst e0
          have e9 : B = [] := sub_nil r2.length
          subst e9
          rcases hd with hd | ⟨_, _, _, _, e, _⟩
          · exact hq.at (by simpa using hd)
          · cases e
        · exact hq _ _ _ (.new hp) (.tup (.inl (.inl upd_same)) ((r1.append r2).mono (same_upd (zh.free hp))))
      · cases hb
    · cases hb
  | sub =>
    obtain ⟨i, j, rfl, rfl, hc, rfl⟩ := intR_some hb
    exact op_sub pins s σ H x y v u Q I rx ry ⟨i, j, hd.int, he.int, hq.at (.int _)⟩
  | mul =>
    replace hb : mulR d e = some r := hb
    unfold mulR at hb
    split at hb
    · split at hb
      · rename_i i j hc
        cases hb
        refine op_mul pins s σ H x y v u Q I rx ry ⟨_, _, hd.int, he.int, ?_, hq.at (.int _)⟩
        unfold CM at hc
        have e64 : (2 ^ 64 : Int) = 18446744073709551616 := by decide
        unfold CMul
        rw [e64]
        simp only [Bool.or_eq_true, decide_eq_true_eq] at hc
        omega
      · cases hb
    · split at hb
      · rename_i hc
        cases hb
        obtain ⟨e1, o1⟩ := hd.str
        exact op_mul_str pins s σ H x y v u Q I rx ry ⟨_, _, e1, he.int, (okI_iff hc.1).1, (okI_iff hc.1).2, hc.2, hq.at (.str _ (o1.rep _))⟩
      · cases hb
    · split at hb
      · rename_i hc
        cases hb
        obtain ⟨a, vs, e1, h1, r1⟩ := hd.lst zh
        have e63 : (2 ^ 63 : Int) = 9223372036854775808 := by decide
        refine op_rep pins s σ H x y v u Q I rx ry ⟨a, _, vs, e1, he.int, h1, by rw [e63]; exact (okI_iff hc.1).1, by rw [e63]; exact (okI_iff hc.1).2, ?_, fun p hp => hq p _ hp (r1.rep _)⟩
        rw [← r1.length]; exact szl hc.2
      · cases hb
    · cases hb
  | fdiv =>
    obtain ⟨i, j, rfl, rfl, hc, rfl⟩ := intR_some hb
    refine op_fdivN pins s σ H x y v u Q I rx ry ⟨i, j, hd.int, he.int, ?_, hq.at (.int _)⟩
    simpa [CDivN] using hc
  | mod =>
    obtain ⟨i, j, rfl, rfl, hc, rfl⟩ := intR_some hb
    exact op_modN pins s σ H x y v u Q I rx ry ⟨i, j, hd.int, he.int, by simpa using hc, hq.at (.int _)⟩
  | pow =>
    obtain ⟨i, j, rfl, rfl, hc, rfl⟩ := intR_some hb
    refine op_pow pins s σ H x y v u Q I rx ry ⟨i, j, hd.int, he.int, ?_, hq.at (.int _)⟩
    simp only [Bool.and_eq_true, decide_eq_true_eq] at hc
    exact ⟨hc.1.1, hc.1.2, hc.2⟩
  | shl =>
    obtain ⟨i, j, rfl, rfl, hc, rfl⟩ := intR_some hb
    refine op_shl pins s σ H x y v u Q I rx ry ⟨i, j, hd.int, he.int, ?_, hq.at (.int _)⟩
    simp only [Bool.and_eq_true, decide_eq_true_eq] at hc
    exact ⟨hc.1.1, hc.1.2, hc.2⟩
  | shr =>
    obtain ⟨i, j, rfl, rfl, hc, rfl⟩ := intR_some hb
    exact op_shr pins s σ H x y v u Q I rx ry ⟨i, j, hd.int, he.int, by simpa using hc, hq.at (.int _)⟩
  | band =>
    obtain ⟨i, j, rfl, rfl, hc, rfl⟩ := intR_some hb
    simp only [Bool.and_eq_true, decide_eq_true_eq] at hc
    refine op_and pins s σ H x y v u Q I rx ry ⟨i, j, hd.int, he.int, ?_⟩
    show Q (.int (PySem.Builtin.bitAnd i j)) H
    rw [bitAnd_pos hc.1 hc.2]; exact hq.at (.int _)
  | bor =>
    obtain ⟨i, j, rfl, rfl, hc, rfl⟩ := intR_some hb
    simp only [Bool.and_eq_true, decide_eq_true_eq] at hc
    refine op_or pins s σ H x y v u Q I rx ry ⟨i, j, hd.int, he.int, ?_⟩
    show Q (.int (PySem.Builtin.bitOr i j)) H
    rw [bitOr_pos hc.1 hc.2]; exact hq.at (.int _)
  | bxor =>
    obtain ⟨i, j, rfl, rfl, hc, rfl⟩ := intR_some hb
    simp only [Bool.and_eq_true, decide_eq_true_eq] at hc
    refine op_xor pins s σ H x y v u Q I rx ry ⟨i, j, hd.int, he.int, ?_⟩
    show Q (.int (PySem.Builtin.bitXor i j)) H
    rw [bitXor_pos hc.1 hc.2]; exact hq.at (.int _)
end
end Z

/-! Z: comparisons, subscripts, cuts, truth by values. -/
namespace Z
open PySem PySem.Spec PyProof.Rows L2

mutual
def D.py : D → PyData
  | .non => .none
  | .bl b => .bool b
  | .int i => .int i
  | .str s => .str (sOf s)
  | .tup ds => .tuple (pyL ds)
  | .lst ds => .list (pyL ds)
  | .scr _ => .none
def pyL : List D → List PyData
  | [] => []
  | d :: ds => d.py :: pyL ds
end
section
variable {K : PySem.W.Frag} {A0 H : Hp}
mutual
theorem Rep.dp (z : Same A0 H) : ∀ {d : D} {v : V}, Rep K A0 d v → d.pl = true → Dp K H v d.py
  | _, _, .non, _ => by rw [D.py]; exact .non
  | _, _, .bl b, _ => by rw [D.py]; exact .bl b
  | _, _, .int i, _ => by rw [D.py]; exact .int i
  | _, _, .str s _, _ => by rw [D.py]; exact .str _
  | .tup ds, _, .tup h hs, p => by rw [D.py]; exact .tup (seqT_mono z h) (Reps.dp z hs (by rw [D.pl] at p; exact p))
  | .lst ds, _, .lst h hs, p => by rw [D.py]; exact .lst (.inl (.inl (z _ _ h))) (Reps.dp z hs (by rw [D.pl] at p; exact p))
  | _, _, .scr _, p => by simp [D.pl] at p
theorem Reps.dp (z : Same A0 H) : ∀ {ds : List D} {vs : List V}, Reps K A0 ds vs → plL ds = true → DpAll K H vs (pyL ds)
  | _, _, .nil, _ => by rw [pyL]; exact .nil
  | d :: ds, _, .cons h hs, p => by
    rw [plL, Bool.and_eq_true] at p
    rw [pyL]; exact .cons (Rep.dp z h p.1) (Reps.dp z hs p.2)
end
theorem Rd.dp (z : Same A0 H) {d : D} {v : V} (h : Rd K A0 H d v) (p : d.pl = true) : Dp K H v d.py := by
  rcases h with h | ⟨a, vs, ds, rfl, rfl, h1, h2⟩
  · exact h.dp z p
  · rw [D.py]; exact .lst (.inl (.inl h1)) (h2.dp z (by rw [D.pl] at p; exact p))
theorem strOk_of {s : List Nat} (h : SOk s) : PyData.strOk (sOf s) = true := by
  unfold PyData.strOk
  rw [Array.all_eq_true']
  intro c hc
  have : c ∈ s := by simpa [sOf] using hc
  exact decide_eq_true (h c this)
mutual
theorem Rep.lay : ∀ {d : D} {v : V}, Rep K A0 d v → d.pl = true → d.py.canLay0 = true
  | _, _, .non, _ => by rw [D.py]; rfl
  | _, _, .bl b, _ => by rw [D.py]; rfl
  | _, _, .int i, _ => by rw [D.py]; rfl
  | _, _, .str s h, _ => by rw [D.py]; simpa [PyData.canLay0] using strOk_of h
  | .tup ds, _, .tup h hs, p => by rw [D.py]; simpa [PyData.canLay0] using Reps.lay hs (by rw [D.pl] at p; exact p)
  | .lst ds, _, .lst h hs, p => by rw [D.py]; simpa [PyData.canLay0] using Reps.lay hs (by rw [D.pl] at p; exact p)
  | _, _, .scr _, p => by simp [D.pl] at p
theorem Reps.lay : ∀ {ds : List D} {vs : List V}, Reps K A0 ds vs → plL ds = true → PyData.canLayAll0 (pyL ds) = true
  | _, _, .nil, _ => by rw [pyL]; rfl
  | d :: ds, _, .cons h hs, p => by
    rw [plL, Bool.and_eq_true] at p
    rw [pyL]; simp [PyData.canLayAll0, Rep.lay h p.1, Reps.lay hs p.2]
end
theorem Rd.lay {d : D} {v : V} (h : Rd K A0 H d v) (p : d.pl = true) : d.py.canLay0 = true := by
  rcases h with h | ⟨a, vs, ds, rfl, rfl, h1, h2⟩
  · exact h.lay p
  · rw [D.py]; simpa [PyData.canLay0] using h2.lay (by rw [D.pl] at p; exact p)
end
mutual
theorem py_dep : ∀ d : D, d.py.depth = d.dep
  | .non => by rw [D.py, D.dep] <;> first | rfl | simp
  | .bl b => by rw [D.py, D.dep] <;> first | rfl | simp
  | .int i => by rw [D.py, D.dep] <;> first | rfl | simp
  | .str s => by rw [D.py, D.dep] <;> first | rfl | simp
  | .scr s => by rw [D.py, D.dep] <;> first | rfl | simp
  | .tup ds => by rw [D.py, D.dep, PyData.depth, pyL_dep ds]
  | .lst ds => by rw [D.py, D.dep, PyData.depth, pyL_dep ds]
theorem pyL_dep : ∀ ds : List D, PyData.depthAll (pyL ds) = depL ds
  | [] => by rw [pyL, depL]; rfl
  | d :: ds => by rw [pyL, depL, PyData.depthAll, py_dep d, pyL_dep ds]
end
theorem sOf_beq (s t : List Nat) : (sOf s == sOf t) = (s == t) := by
  by_cases e : s = t
  · subst e; simp
  · have : ¬ sOf s = sOf t := fun q => e (sOf_inj q)
    rw [beq_eq_false_iff_ne.mpr this, beq_eq_false_iff_ne.mpr e]
mutual
theorem eqv_py : ∀ d e : D, d.pl = true → e.pl = true → PyData.eqv d.py e.py = d.eqv e
  | .non, e, _, h => by cases e <;> simp_all [D.py, D.eqv, PyData.eqv, D.pl]
  | .bl b, e, _, h => by cases e <;> simp_all [D.py, D.eqv, PyData.eqv, D.pl]
  | .int i, e, _, h => by cases e <;> simp_all [D.py, D.eqv, PyData.eqv, D.pl]
  | .str s, e, _, h => by cases e <;> simp_all [D.py, D.eqv, PyData.eqv, D.pl, sOf_beq]
  | .tup ds, e, p, h => by
    cases e with
    | tup es => rw [D.py, D.py, D.eqv, PyData.eqv]; exact eqvL_py ds es (by rw [D.pl] at p; exact p) (by rw [D.pl] at h; exact h)
    | _ => simp_all [D.py, D.eqv, PyData.eqv, D.pl]
  | .lst ds, e, p, h => by
    cases e with
    | lst es => rw [D.py, D.py, D.eqv, PyData.eqv]; exact eqvL_py ds es (by rw [D.pl] at p; exact p) (by rw [D.pl] at h; exact h)
    | _ => simp_all [D.py, D.eqv, PyData.eqv, D.pl]
  | .scr _, e, p, h => by simp [D.pl] at p
theorem eqvL_py : ∀ ds es : List D, plL ds = true → plL es = true → PyData.eqvAll (pyL ds) (pyL es) = eqvL ds es
  | [], [], _, _ => by simp [pyL, eqvL, PyData.eqvAll]
  | [], e :: es, _, _ => by simp [pyL, eqvL, PyData.eqvAll]
  | d :: ds, [], _, _ => by simp [pyL, eqvL, PyData.eqvAll]
  | d :: ds, e :: es, p, q => by
    rw [plL, Bool.and_eq_true] at p q
    simp only [pyL, eqvL, PyData.eqvAll]
    rw [eqv_py d e p.1 q.1, eqvL_py ds es p.2 q.2]
end

def cop : COp → CmpOp
  | .eq => .Eq | .ne => .NotEq | .lt => .Lt | .le => .LtE | .gt => .Gt | .ge => .GtE | .inn => .In | .nin => .NotIn
def rCmp (K : PySem.W.Frag) (o : COp) : R2 := fun x y H Q => ∃ d e A0 k, Same A0 H ∧ Rd K A0 H d x ∧ Rd K A0 H e y ∧ cmpR o d e = some k ∧ Q (.bl k) H
theorem flat_V {K : PySem.W.Frag} {A0 H : Hp} {d : D} {v : V} (h : Rd K A0 H d v) (f : d.flat = true) : flatV v = true := by
  cases d with
  | non => rw [h.non]; rfl
  | bl b => rw [h.bl]; rfl
  | int i => rw [h.int]; rfl
  | str s => rw [h.str.1]; rfl
  | tup ds => cases f
  | lst ds => cases f
  | scr ds => cases f
theorem eqV_D {K : PySem.W.Frag} {A0 H : Hp} {d e : D} {v w : V} (h : Rd K A0 H d v) (k : Rd K A0 H e w) (f : d.flat = true) (g : e.flat = true) : eqV v w = d.eqv e := by
  cases d with
  | non =>
    rw [h.non]
    cases e with
    | non => rw [k.non]; simp [D.eqv, eqV]
    | bl b => rw [k.bl]; simp [D.eqv, eqV]
    | int i => rw [k.int]; simp [D.eqv, eqV]
    | str s => rw [k.str.1]; simp [D.eqv, eqV]
    | tup ds => cases g
    | lst ds => cases g
    | scr ds => cases g
  | bl b =>
    rw [h.bl]
    cases e with
    | non => rw [k.non]; simp [D.eqv, eqV]
    | bl b => rw [k.bl]; simp [D.eqv, eqV]
    | int i => rw [k.int]; simp [D.eqv, eqV]
    | str s => rw [k.str.1]; simp [D.eqv, eqV]
    | tup ds => cases g
    | lst ds => cases g
    | scr ds => cases g
  | int i =>
    rw [h.int]
    cases e with
    | non => rw [k.non]; simp [D.eqv, eqV]
    | bl b => rw [k.bl]; simp [D.eqv, eqV]
    | int i => rw [k.int]; simp [D.eqv, eqV]
    | str s => rw [k.str.1]; simp [D.eqv, eqV]
    | tup ds => cases g
    | lst ds => cases g
    | scr ds => cases g
  | str s =>
    rw [h.str.1]
    cases e with
    | non => rw [k.non]; simp [D.eqv, eqV]
    | bl b => rw [k.bl]; simp [D.eqv, eqV]
    | int i => rw [k.int]; simp [D.eqv, eqV]
    | str t => rw [k.str.1]; simp only [D.eqv, eqV]; exact sOf_beq s t
    | tup ds => cases g
    | lst ds => cases g
    | scr ds => cases g
  | tup ds => cases f
  | lst ds => cases f
  | scr ds => cases f
theorem inV_D {K : PySem.W.Frag} {A0 H : Hp} {e : D} {w : V} (k : Rd K A0 H e w) (g : e.flat = true) : ∀ {ds : List D} {vs : List V}, Reps K A0 ds vs → ds.all D.flat = true → vs.all flatV = true ∧ inV w vs = ds.any fun x => x.eqv e
  | _, _, .nil, _ => ⟨rfl, rfl⟩
  | d :: ds, v :: vs, .cons h t, f => by
    rw [List.all_cons, Bool.and_eq_true] at f
    obtain ⟨q1, q2⟩ := inV_D k g t f.2
    have h' : Rd K A0 H d v := .inl h
    refine ⟨by rw [List.all_cons, flat_V h' f.1, q1]; rfl, ?_⟩
    unfold inV at q2 ⊢
    rw [List.any_cons, List.any_cons, q2, eqV_D h' k f.1 g]
theorem cmp_lt {d e : D} {k : Bool} (h : cmpR .lt d e = some k) : ∃ i j, d = .int i ∧ e = .int j ∧ k = decide (i < j) := by
  cases d <;> cases e <;> first | (cases h; done) | (simp only [cmpR, Option.some.injEq] at h; exact ⟨_, _, rfl, rfl, h.symm⟩)
theorem cmp_le {d e : D} {k : Bool} (h : cmpR .le d e = some k) : ∃ i j, d = .int i ∧ e = .int j ∧ k = decide (i ≤ j) := by
  cases d <;> cases e <;> first | (cases h; done) | (simp only [cmpR, Option.some.injEq] at h; exact ⟨_, _, rfl, rfl, h.symm⟩)
theorem cmp_gt {d e : D} {k : Bool} (h : cmpR .gt d e = some k) : ∃ i j, d = .int i ∧ e = .int j ∧ k = decide (j < i) := by
  cases d <;> cases e <;> first | (cases h; done) | (simp only [cmpR, Option.some.injEq] at h; exact ⟨_, _, rfl, rfl, h.symm⟩)
theorem cmp_ge {d e : D} {k : Bool} (h : cmpR .ge d e = some k) : ∃ i j, d = .int i ∧ e = .int j ∧ k = decide (j ≤ i) := by
  cases d <;> cases e <;> first | (cases h; done) | (simp only [cmpR, Option.some.injEq] at h; exact ⟨_, _, rfl, rfl, h.symm⟩)
theorem cmp_inn {d : D} {t : List Nat} {k : Bool} (h : cmpR .inn d (.str t) = some k) : ∃ c, d = .str c ∧ k = inS c t := by
  cases d with
  | str s => simp only [cmpR, Option.some.injEq] at h; exact ⟨s, rfl, h.symm⟩
  | _ => simp [cmpR] at h
theorem cmp_nin {d : D} {t : List Nat} {k : Bool} (h : cmpR .nin d (.str t) = some k) : ∃ c, d = .str c ∧ k = !inS c t := by
  cases d with
  | str s => simp only [cmpR, Option.some.injEq] at h; exact ⟨s, rfl, h.symm⟩
  | _ => simp [cmpR] at h
/-! where a text stands -/
theorem atS_iff (s t : List Nat) (i : Nat) : StrLaws.At (sOf s) (sOf t) (sOf s).length i ↔ atS s t i = true := by
  unfold StrLaws.At atS
  rw [StrLaws.subAt_eq, sOf_len, sOf_len]
  show (i + t.length ≤ s.length ∧ ((s.drop i).take t.length == t) = true) ↔ _
  rw [beq_iff_eq, Bool.and_eq_true, decide_eq_true_eq, List.isPrefixOf_iff_prefix, List.prefix_iff_eq_take]
  constructor
  · intro ⟨h1, h2⟩
    exact ⟨by omega, h2.symm⟩
  · intro ⟨h1, h2⟩
    have := congrArg List.length h2
    rw [List.length_take, List.length_drop] at this
    exact ⟨by omega, h2.symm⟩
theorem occ_fnd (s t : List Nat) (lo : Nat) : (match PySem.Builtin.Str.occurrences (sOf s) (sOf t) lo (sOf s).length 1 with | k :: _ => (k : Int) | [] => -1) = fndI (fnd s t lo) ∧
    (PySem.Builtin.Str.occurrences (sOf s) (sOf t) lo (sOf s).length 1).isEmpty = (fnd s t lo).isNone := by
  rcases StrLaws.occ_head_from (sOf s) (sOf t) lo 1 (Nat.le_refl 1) with ⟨h, hn⟩ | ⟨i, r, h, hlo, hat, hn⟩
  · have e : fnd s t lo = none := by
      unfold fnd
      rw [List.find?_eq_none]
      intro i hi hc
      rw [Bool.and_eq_true, decide_eq_true_eq] at hc
      exact hn i hc.1 ((atS_iff s t i).mpr hc.2)
    rw [h, e]; exact ⟨rfl, rfl⟩
  · have e : fnd s t lo = some i := by
      unfold fnd
      have hi := (atS_iff s t i).mp hat
      have hi2 : i ≤ s.length := by unfold atS at hi; rw [Bool.and_eq_true, decide_eq_true_eq] at hi; exact hi.1
      rw [List.find?_range_eq_some]
      refine ⟨by rw [hi, Bool.and_true]; exact decide_eq_true hlo, List.mem_range.mpr (by omega), fun j hj => ?_⟩
      by_cases q : lo ≤ j
      · have : atS s t j = false := Bool.eq_false_iff.mpr fun p => hn j q hj ((atS_iff s t j).mpr p)
        rw [this, Bool.and_false]; rfl
      · rw [decide_eq_false q]; rfl
    rw [h, e]; exact ⟨rfl, rfl⟩
theorem occ_in (c t : List Nat) : (!(PySem.Builtin.Str.occurrences (sOf t) (sOf c) 0 (sOf t).length 1).isEmpty) = inS c t := by
  unfold inS
  split
  · exact StrLaws.found_one (sOf t) _
  · rw [(occ_fnd t _ 0).2]
    cases fnd t _ 0 <;> rfl
theorem last_rfn (s t : List Nat) : (match PySem.Builtin.Str.lastOccurrence (sOf s) (sOf t) 0 (sOf s).length with | some i => (i : Int) | none => -1) = fndI (rfn s t) := by
  have key : ∀ n, (∀ i, atS s t i = true → i < n) → (StrLaws.At (sOf s) (sOf t) (sOf s).length = fun i => atS s t i = true) → ((List.range n).reverse.find? fun i => atS s t i) = PySem.Builtin.Str.lastOccurrence (sOf s) (sOf t) 0 (sOf s).length := by
    intro n hn he
    rcases StrLaws.last_spec (sOf s) (sOf t) with ⟨h, hno⟩ | ⟨i, h, hat, hl⟩
    · rw [h, List.find?_eq_none]
      intro i _ hc
      exact hno i ((atS_iff s t i).mpr hc)
    · rw [h]
      have hi := (atS_iff s t i).mp hat
      have hin := hn i hi
      have : (List.range n).reverse = ((List.range (n - (i + 1))).map (i + 1 + ·)).reverse ++ (i :: (List.range i).reverse) := by
        have e : List.range n = List.range i ++ (i :: (List.range (n - (i + 1))).map (i + 1 + ·)) := by
          have e1 : n = (i + 1) + (n - (i + 1)) := by omega
          conv => lhs; rw [e1, List.range_add, List.range_succ]
          simp
        rw [e]; simp
      rw [this, List.find?_append]
      have h0 : (((List.range (n - (i + 1))).map (i + 1 + ·)).reverse.find? fun i => atS s t i) = none := by
        rw [List.find?_eq_none]
        intro k hk hc
        rw [List.mem_reverse, List.mem_map] at hk
        obtain ⟨a, _, rfl⟩ := hk
        exact hl _ (by omega) ((atS_iff s t _).mpr hc)
      rw [h0]
      simp [List.find?_cons, hi]
  have := key (s.length + 1) (fun i hi => by unfold atS at hi; rw [Bool.and_eq_true, decide_eq_true_eq] at hi; omega) (funext fun i => propext (atS_iff s t i))
  unfold rfn
  rw [this]
  cases PySem.Builtin.Str.lastOccurrence (sOf s) (sOf t) 0 (sOf s).length <;> rfl
/-- signs counted -/
theorem count_loop (s : List Nat) (c : Nat) : ∀ (n a : Nat) (arr : Array Nat) (free : Nat), a + n = s.length + 1 → free ≤ a → arr.size ≤ a →
    (forIn (List.range' a n) (arr, free) (StrLaws.occBody (sOf s) (sOf [c]) (sOf s).length ((sOf s).length + 1))).run.fst.size = arr.size + (s.drop a).count c := by
  intro n
  induction n with
  | zero => intro a arr free h1 h2 h3; rw [List.drop_of_length_le (by omega)]; simp
  | succ n ih =>
    intro a arr free h1 h2 h3
    rw [List.range'_succ, List.forIn_cons]
    have hiff := (StrLaws.subAt_one (sOf s) c a)
    unfold StrLaws.occBody
    by_cases hc : s[a]? = some c
    · obtain ⟨q1, q2⟩ := hiff.mpr hc
      rw [if_pos ⟨⟨⟨by rw [sOf_len]; show arr.size < s.length + 1; omega, h2⟩, q1⟩, q2⟩]
      obtain ⟨hl, hg⟩ := List.getElem?_eq_some_iff.mp hc
      have := ih (a + 1) (arr.push a) (a + (sOf [c]).length) (by omega) (by rw [sOf_len]; exact Nat.le_refl _) (by simp; omega)
      show (forIn (List.range' (a + 1) n) (arr.push a, a + (sOf [c]).length) (StrLaws.occBody (sOf s) (sOf [c]) (sOf s).length ((sOf s).length + 1))).run.fst.size = _
      rw [this, List.drop_eq_getElem_cons hl, List.count_cons, hg]
      simp; omega
    · rw [if_neg (fun q => hc (hiff.mp ⟨q.1.2, q.2⟩))]
      have := ih (a + 1) arr free (by omega) (by omega) (by omega)
      show (forIn (List.range' (a + 1) n) (arr, free) (StrLaws.occBody (sOf s) (sOf [c]) (sOf s).length ((sOf s).length + 1))).run.fst.size = _
      rw [this]
      by_cases hl : a < s.length
      · rw [List.drop_eq_getElem_cons hl, List.count_cons]
        have : s[a] ≠ c := fun e => hc (by rw [List.getElem?_eq_getElem hl, e])
        simp [this]
      · rw [List.drop_of_length_le (by omega), List.drop_of_length_le (by omega)]
theorem count_sign (s : List Nat) (c : Nat) : Txt.count (sOf s) (sOf [c]) = ((s.count c : Nat) : Int) := by
  unfold Txt.count
  rw [StrLaws.occ_eq, Array.length_toList]
  have := count_loop s c (s.length + 1) 0 #[] 0 (by omega) (Nat.le_refl _) (by simp)
  rw [sOf_len] at this ⊢
  rw [Nat.sub_zero, this]
  simp
theorem dec_eq {p : Prop} (a b : Decidable p) : @decide p a = @decide p b := by congr
section
variable {X : Cx}
theorem cmp_any (hu : X.A.units + 64 < cLine) (o : COp) : OpR X (compareOp (cop o)) (rCmp X.K o) := by
  intro pins s σ H x y v u Q I rx ry h
  obtain ⟨d, e, A0, k, zh, hd, he, hk, hq⟩ := h
  cases o with
  | eq =>
    replace hk : (if d.pl && e.pl && decide (d.dep ≤ 64) && decide (e.dep ≤ 64) then some (d.eqv e) else none) = some k := hk
    split at hk
    · rename_i hc
      cases hk
      simp only [Bool.and_eq_true, decide_eq_true_eq] at hc
      obtain ⟨⟨⟨p1, p2⟩, p3⟩, p4⟩ := hc
      refine op_eqD hu pins s σ H x y v u Q I rx ry ⟨d.py, e.py, hd.dp zh p1, he.dp zh p2, ?_, ?_, ?_⟩
      · unfold SeqAt.shaped; rw [hd.lay p1, py_dep, decide_eq_true p3]; rfl
      · unfold SeqAt.shaped; rw [he.lay p2, py_dep, decide_eq_true p4]; rfl
      · rw [eqv_py d e p1 p2]; exact hq
    · cases hk
  | ne =>
    replace hk : (if d.pl && e.pl && decide (d.dep ≤ 64) && decide (e.dep ≤ 64) then some (!d.eqv e) else none) = some k := hk
    split at hk
    · rename_i hc
      cases hk
      simp only [Bool.and_eq_true, decide_eq_true_eq] at hc
      obtain ⟨⟨⟨p1, p2⟩, p3⟩, p4⟩ := hc
      refine op_neD hu pins s σ H x y v u Q I rx ry ⟨d.py, e.py, hd.dp zh p1, he.dp zh p2, ?_, ?_, ?_⟩
      · unfold SeqAt.shaped; rw [hd.lay p1, py_dep, decide_eq_true p3]; rfl
      · unfold SeqAt.shaped; rw [he.lay p2, py_dep, decide_eq_true p4]; rfl
      · rw [eqv_py d e p1 p2]; exact hq
    · cases hk
  | lt =>
    obtain ⟨i, j, rfl, rfl, rfl⟩ := cmp_lt hk
    exact op_lt pins s σ H x y v u Q I rx ry ⟨_, _, hd.int, he.int, hq⟩
  | le =>
    obtain ⟨i, j, rfl, rfl, rfl⟩ := cmp_le hk
    exact op_le pins s σ H x y v u Q I rx ry ⟨_, _, hd.int, he.int, hq⟩
  | gt =>
    obtain ⟨i, j, rfl, rfl, rfl⟩ := cmp_gt hk
    exact op_gt pins s σ H x y v u Q I rx ry ⟨_, _, hd.int, he.int, hq⟩
  | ge =>
    obtain ⟨i, j, rfl, rfl, rfl⟩ := cmp_ge hk
    exact op_ge pins s σ H x y v u Q I rx ry ⟨_, _, hd.int, he.int, hq⟩
  | inn =>
    cases e with
    | lst es =>
      replace hk : (if d.flat && es.all D.flat then some (es.any fun x => x.eqv d) else none) = some k := hk
      split at hk
      · rename_i hc
        cases hk
        rw [Bool.and_eq_true] at hc
        obtain ⟨a, vs, rfl, h1, r1⟩ := he.lst zh
        obtain ⟨q1, q2⟩ := inV_D hd hc.1 r1 hc.2
        exact op_in_seq pins s σ H x _ v u Q I rx ry ⟨a, vs, rfl, .inl (.inl (.inl h1)), flat_V hd hc.1, q1, by rw [if_neg Bool.false_ne_true, q2]; exact hq⟩
      · cases hk
    | tup es =>
      replace hk : (if d.flat && es.all D.flat then some (es.any fun x => x.eqv d) else none) = some k := hk
      split at hk
      · rename_i hc
        cases hk
        rw [Bool.and_eq_true] at hc
        obtain ⟨a, vs, rfl, h1, r1⟩ := he.tup zh
        obtain ⟨q1, q2⟩ := inV_D hd hc.1 r1 hc.2
        exact op_in_seq pins s σ H x _ v u Q I rx ry ⟨a, vs, rfl, .inr h1, flat_V hd hc.1, q1, by rw [if_neg Bool.false_ne_true, q2]; exact hq⟩
      · cases hk
    | str t =>
      obtain ⟨c, rfl, rfl⟩ := cmp_inn hk
      obtain ⟨e1, _⟩ := hd.str
      obtain ⟨e2, _⟩ := he.str
      exact op_in_str pins s σ H x y v u Q I rx ry ⟨_, _, e1, e2, by rw [occ_in]; exact hq⟩
    | non => cases hk
    | bl _ => cases hk
    | int _ => cases hk
    | scr _ => cases hk
  | nin =>
    cases e with
    | lst es =>
      replace hk : (if d.flat && es.all D.flat then some (!es.any fun x => x.eqv d) else none) = some k := hk
      split at hk
      · rename_i hc
        cases hk
        rw [Bool.and_eq_true] at hc
        obtain ⟨a, vs, rfl, h1, r1⟩ := he.lst zh
        obtain ⟨q1, q2⟩ := inV_D hd hc.1 r1 hc.2
        exact op_notIn_seq pins s σ H x _ v u Q I rx ry ⟨a, vs, rfl, .inl (.inl (.inl h1)), flat_V hd hc.1, q1, by rw [if_pos rfl, q2]; exact hq⟩
      · cases hk
    | tup es =>
      replace hk : (if d.flat && es.all D.flat then some (!es.any fun x => x.eqv d) else none) = some k := hk
      split at hk
      · rename_i hc
        cases hk
        rw [Bool.and_eq_true] at hc
        obtain ⟨a, vs, rfl, h1, r1⟩ := he.tup zh
        obtain ⟨q1, q2⟩ := inV_D hd hc.1 r1 hc.2
        exact op_notIn_seq pins s σ H x _ v u Q I rx ry ⟨a, vs, rfl, .inr h1, flat_V hd hc.1, q1, by rw [if_pos rfl, q2]; exact hq⟩
      · cases hk
    | str t =>
      obtain ⟨c, rfl, rfl⟩ := cmp_nin hk
      obtain ⟨e1, _⟩ := hd.str
      obtain ⟨e2, _⟩ := he.str
      exact op_notIn_str pins s σ H x y v u Q I rx ry ⟨_, _, e1, e2, by rw [occ_in]; exact hq⟩
    | non => cases hk
    | bl _ => cases hk
    | int _ => cases hk
    | scr _ => cases hk

/-! subscripts -/
theorem ixN_eq (n : Nat) (i : Int) : Z.ixN n i = L2.ixN n i := rfl
theorem atI_of {α : Type} {xs : List α} {i : Int} {k : Nat} {v : α} (h : Z.ixN xs.length i = some k) (e : xs[k]? = some v) : atI xs i = some v := by
  unfold atI; rw [← ixN_eq, h]; exact e
def rIxU (K : PySem.W.Frag) : R2 := fun x y H Q => ∃ d e A0 r, Same A0 H ∧ Rd K A0 H d x ∧ Rd K A0 H e y ∧ idxR d e = some r ∧ ∀ v, Rep K A0 r v → Q v H
theorem ix_any : IxR X (rIxU X.K) := by
  intro value slice pins s σ H x y v u Q I rx ry h hs
  obtain ⟨d, e, A0, r, zh, hd, he, hk, hq⟩ := h
  unfold idxR at hk
  split at hk
  · obtain ⟨k, h1, h2⟩ := Option.bind_eq_some_iff.mp hk
    obtain ⟨a, vs, e1, h3, r1⟩ := hd.lst zh
    obtain ⟨w, e4, r4⟩ := r1.get h2
    rw [r1.length] at h1
    exact ix_list value slice pins s σ H x y v u Q I rx ry ⟨a, vs, _, w, e1, he.int, .inl (.inl h3), atI_of h1 e4, hq _ r4⟩ hs
  · obtain ⟨k, h1, h2⟩ := Option.bind_eq_some_iff.mp hk
    obtain ⟨a, vs, e1, h3, r1⟩ := hd.tup zh
    obtain ⟨w, e4, r4⟩ := r1.get h2
    rw [r1.length] at h1
    exact ix_tup value slice pins s σ H x y v u Q I rx ry ⟨a, vs, _, w, e1, he.int, h3, atI_of h1 e4, hq _ r4⟩ hs
  · split at hk
    · obtain ⟨k, h1, h2⟩ := Option.bind_eq_some_iff.mp hk
      obtain ⟨c, h3, h4⟩ := Option.map_eq_some_iff.mp h2
      subst h4
      obtain ⟨e1, o1⟩ := hd.str
      refine ix_str value slice pins s σ H x y v u Q I rx ry ⟨_, _, c, e1, he.int, ?_, ?_, ?_⟩ hs
      · rw [sOf_len]; exact szl (by assumption)
      · exact atI_of (xs := (sOf _).cps.toList) (by simpa [sOf] using h1) (by simpa [sOf] using h3)
      · exact hq _ (.str [c] fun q hq => by
          have : q = c := by simpa using hq
          subst this
          exact o1 q (List.mem_of_getElem? h3))
    · cases hk
  · obtain ⟨k, h1, h2⟩ := Option.bind_eq_some_iff.mp hk
    obtain ⟨c, h3, h4⟩ := Option.map_eq_some_iff.mp h2
    subst h4
    obtain ⟨a, e1, h5⟩ := hd.scr zh
    exact ix_list value slice pins s σ H x y v u Q I rx ry ⟨a, _, _, .int c, e1, he.int, h5, atI_of (by rw [List.length_map]; exact h1) (by rw [List.getElem?_map, h3]; rfl), hq _ (.int c)⟩ hs
  · cases hk
def rSlU (K : PySem.W.Frag) : V → Option Int → Option Int → Hp → VK → Prop := fun x lo hi H Q => ∃ d A0 r, Same A0 H ∧ Rd K A0 H d x ∧ slcR d lo hi = some r ∧ New K A0 H r Q
theorem cut_all {α : Type} (xs : List α) {lo hi : Option Int} (h : HT.sIx xs.length 0 lo = 0 ∧ HT.sIx xs.length xs.length hi = xs.length) : Z.cut xs lo hi = xs := by
  have e : ∀ (n d : Nat) (o : Option Int), sx n d o = HT.sIx n d o := fun n d o => by cases o <;> rfl
  unfold Z.cut
  rw [e, e, h.1, h.2]
  simp
theorem sl_any : SlR X (rSlU X.K) := by
  intro pins s σ H x v vl vu lo hi sl Q I rx hs pl pu h
  obtain ⟨d, A0, r, zh, hd, hk, hq⟩ := h
  unfold slcR at hk
  split at hk
  · cases hk
    obtain ⟨a, vs, e1, h3, r1⟩ := hd.lst zh
    exact sl_list pins s σ H x v vl vu lo hi sl Q I rx hs pl pu ⟨a, vs, e1, .inl (.inl h3), fun p hp => hq p _ hp (r1.cut lo hi)⟩
  · rename_i ds
    cases hk
    obtain ⟨a, vs, e1, h3, r1⟩ := hd.tup zh
    subst e1
    refine sl_tupA pins s σ H _ v vl vu lo hi sl Q I rx hs pl pu ⟨a, vs, rfl, h3, fun q => ?_, fun q p hp => ?_⟩
    · rw [← r1.length] at q
      rcases hd with hd | ⟨_, _, _, _, e, _⟩
      · exact hq.at (by rw [cut_all ds q]; exact hd)
      · cases e
    · exact hq _ _ _ (.new hp) (.tup (.inl (.inl upd_same)) ((r1.cut lo hi).mono (same_upd (zh.free hp))))
  · split at hk
    · rename_i z hz
      cases hk
      obtain ⟨e1, o1⟩ := hd.str
      refine sl_str pins s σ H x v vl vu lo hi sl Q I rx hs pl pu ⟨_, e1, by rw [sOf_len]; exact szl hz, ?_⟩
      have e : ∀ (n d : Nat) (o : Option Int), sx n d o = HT.sIx n d o := fun n d o => by cases o <;> rfl
      have e2 : cutS (sOf z) lo hi = sOf (Z.cut z lo hi) := by
        unfold cutS Z.cut
        rw [e, e, sOf_len]
        rfl
      rw [e2]
      exact hq.at (.str _ (o1.cut lo hi))
    · cases hk
  · cases hk
/-! truth -/
theorem Rd.tru {K : PySem.W.Frag} {A0 H : Hp} {d : D} {v : V} {k : Bool} (zh : Same A0 H) (h : Rd K A0 H d v) (t : d.tr = some k) : TruV K v H k := by
  cases d with
  | non => rw [h.non]; simp only [D.tr, Option.some.injEq] at t; exact t.symm
  | bl b => rw [h.bl]; simp only [D.tr, Option.some.injEq] at t; exact t.symm
  | int i => rw [h.int]; simp only [D.tr, Option.some.injEq] at t; exact t.symm
  | str s =>
    obtain ⟨e, _⟩ := h.str
    rw [e]
    simp only [D.tr] at t
    split at t
    · rename_i hz
      cases t
      refine ⟨by rw [sOf_len]; exact szl hz, ?_⟩
      rw [sOf_len]
      cases s with
      | nil => rfl
      | cons c s =>
        show true = (((s.length + 1 : Nat) : Int) != 0)
        symm
        rw [bne_iff_ne]
        omega
    · cases t
  | tup ds =>
    obtain ⟨a, vs, e, h1, r⟩ := h.tup zh
    subst e
    simp only [D.tr, Option.some.injEq] at t
    refine .inr (.inl ⟨vs, h1, ?_⟩)
    rw [← t]
    cases r <;> rfl
  | lst ds =>
    obtain ⟨a, vs, e, h1, r⟩ := h.lst zh
    subst e
    simp only [D.tr, Option.some.injEq] at t
    refine .inl ⟨vs, .inl (.inl h1), ?_⟩
    rw [← t]
    cases r <;> rfl
  | scr ns => cases t
end
end Z

/-! Z: built-ins and methods by values. -/
namespace Z
open PySem PySem.Spec PyProof.Rows L2

inductive Rds (K : PySem.W.Frag) (A0 H : Hp) : List D → List V → Prop where
  | nil : Rds K A0 H [] []
  | cons {d : D} {v : V} {ds : List D} {vs : List V} : Rd K A0 H d v → Rds K A0 H ds vs → Rds K A0 H (d :: ds) (v :: vs)
theorem Rds.one {K : PySem.W.Frag} {A0 H : Hp} {d : D} {vs : List V} (h : Rds K A0 H [d] vs) : ∃ v, vs = [v] ∧ Rd K A0 H d v := by
  cases h with | cons a b => cases b; exact ⟨_, rfl, a⟩
theorem Rds.two {K : PySem.W.Frag} {A0 H : Hp} {d e : D} {vs : List V} (h : Rds K A0 H [d, e] vs) : ∃ v w, vs = [v, w] ∧ Rd K A0 H d v ∧ Rd K A0 H e w := by
  cases h with | cons a b => cases b with | cons c b => cases b; exact ⟨_, _, rfl, a, c⟩
theorem joinL_eq (s : List Nat) : ∀ l : List (List Nat), Z.joinL s l = TL.joinL s l
  | [] => rfl
  | [_] => rfl
  | x :: y :: r => by
    show x ++ (s ++ Z.joinL s (y :: r)) = x ++ (s ++ TL.joinL s (y :: r))
    rw [joinL_eq s (y :: r)]
theorem mem_joinL {s : List Nat} {c : Nat} : ∀ {l : List (List Nat)}, c ∈ Z.joinL s l → c ∈ s ∨ ∃ x ∈ l, c ∈ x
  | [], h => by cases h
  | [x], h => .inr ⟨x, List.mem_cons_self, h⟩
  | x :: y :: r, h => by
    rcases List.mem_append.mp h with h | h
    · exact .inr ⟨x, List.mem_cons_self, h⟩
    · rcases List.mem_append.mp h with h | h
      · exact .inl h
      · rcases mem_joinL h with h | ⟨z, h1, h2⟩
        · exact .inl h
        · exact .inr ⟨z, List.mem_cons_of_mem _ h1, h2⟩
theorem join_sOf (s : List Nat) (l : List (List Nat)) : Txt.join (sOf s) (l.map sOf) = sOf (Z.joinL s l) := by
  rw [TL.join_eq]
  refine TL.ext_tl ?_
  rw [TL.tl_join, joinL_eq, List.map_map]
  show TL.joinL s (l.map (TL.tl ∘ sOf)) = TL.joinL s l
  have : (TL.tl ∘ sOf) = id := by funext x; rfl
  rw [this, List.map_id]
section
variable {X : Cx}
theorem call_list_S (hc : X.calm = true) : CallR X (.type "list") (fun xs H Q => ∃ s, xs = [.str (sOf s)] ∧ s.length ≤ SZ ∧ ∀ l, H l = none → Q (.ref l) (upd H l (.lst (s.map fun c => V.str (sOf [c]))))) := by
  intro pins s σ H xs us Q I rs h
  obtain ⟨z, rfl, hz, q⟩ := h
  obtain ⟨u, rfl, ru⟩ := vals1 rs
  obtain ⟨t, rfl⟩ := ru
  refine PySem.call_list_str (I.ok.hd hc) (sOf z) t (hn := by show z.toArray.size ≤ sizeLine; simpa using szl hz) fun h' tk acc c hk hS hacc => ?_
  have hf : H s.heap.objs.size = none := I.hok.fresh (Nat.le_refl _)
  have hlen : acc.toList.length = (z.map fun c => V.str (sOf [c])).length := by
    rw [Array.length_toList, List.length_map, hacc.1]; simp [sOf]
  have vv : Vals (z.map fun c => V.str (sOf [c])) acc.toList := vals_of_idx _ _ hlen fun j w hw => by
    obtain ⟨c, u, h1, h2⟩ := hacc.2 j w (by simpa using hw)
    refine ⟨.str (sOf [c]), ?_, u, ?_⟩
    · rw [List.getElem?_map]
      have : z[j]? = some c := by simpa [sOf] using h1
      rw [this]; rfl
    · rw [h2]; rfl
  refine ⟨.ref s.heap.objs.size, upd H s.heap.objs.size (.lst (z.map fun c => V.str (sOf [c]))), I.laid (t' := tk) hk (Nat.le_refl _) ?_, rfl, q _ hf⟩
  exact ⟨by rw [List.length_map]; exact szl hz, acc.toList, c, vv, by simpa using hS⟩
theorem reps_chars {K : PySem.W.Frag} {A0 : Hp} : ∀ {s : List Nat}, SOk s → Reps K A0 (s.map fun c => D.str [c]) (s.map fun c => V.str (sOf [c]))
  | [], _ => .nil
  | c :: s, h => .cons (.str [c] fun q hq => by
      have : q = c := by simpa using hq
      subst this
      exact h q List.mem_cons_self) (reps_chars fun q hq => h q (List.mem_cons_of_mem _ hq))
theorem int_digit {c : Nat} (h : 48 ≤ c ∧ c ≤ 57) : PySem.intText? (sOf [c]) = some ((c - 48 : Nat) : Int) := by
  obtain ⟨h1, h2⟩ := h
  have : c = 48 ∨ c = 49 ∨ c = 50 ∨ c = 51 ∨ c = 52 ∨ c = 53 ∨ c = 54 ∨ c = 55 ∨ c = 56 ∨ c = 57 := by omega
  rcases this with rfl | rfl | rfl | rfl | rfl | rfl | rfl | rfl | rfl | rfl <;> decide +kernel

def rBlt (K : PySem.W.Frag) (f : Blt) : List V → Hp → VK → Prop := fun xs H Q => ∃ ds A0 r, Same A0 H ∧ Rds K A0 H ds xs ∧ bltR f ds = some r ∧ New K A0 H r Q
def bfn : Blt → Value
  | .len => .builtin "len" | .list => .type "list" | .tuple => .type "tuple" | .str => .type "str" | .int => .type "int" | .abs => .builtin "abs" | .min2 => .builtin "min" | .max2 => .builtin "max" | .sum => .builtin "sum"
  | .sorted => .builtin "sorted" | .all => .builtin "all" | .any => .builtin "any"
theorem blt_any (hc : X.calm = true) (f : Blt) : CallR X (bfn f) (rBlt X.K f) := by
  intro pins s σ H xs us Q I rs h
  obtain ⟨ds, A0, r, zh, hd, hk, hq⟩ := h
  cases f with
  | len =>
    simp only [bltR] at hk
    split at hk
    · cases hk
      obtain ⟨v, rfl, h1⟩ := hd.one
      obtain ⟨a, vs, rfl, h2, r1⟩ := h1.lst zh
      exact call_len pins s σ H _ us Q I rs ⟨_, vs.length, rfl, .inl ⟨vs, .inl (.inl h2), rfl⟩, by rw [← r1.length]; exact hq.at (.int _)⟩
    · cases hk
      obtain ⟨v, rfl, h1⟩ := hd.one
      obtain ⟨a, vs, rfl, h2, r1⟩ := h1.tup zh
      exact call_len pins s σ H _ us Q I rs ⟨_, vs.length, rfl, .inr ⟨vs, h2, rfl⟩, by rw [← r1.length]; exact hq.at (.int _)⟩
    · split at hk
      · rename_i hz
        cases hk
        obtain ⟨v, rfl, h1⟩ := hd.one
        obtain ⟨rfl, _⟩ := h1.str
        exact call_len pins s σ H _ us Q I rs ⟨_, _, rfl, ⟨by rw [sOf_len]; exact szl hz, rfl⟩, by rw [sOf_len]; exact hq.at (.int _)⟩
      · cases hk
    · cases hk
      obtain ⟨v, rfl, h1⟩ := hd.one
      obtain ⟨a, rfl, h2⟩ := h1.scr zh
      exact call_len pins s σ H _ us Q I rs ⟨_, _, rfl, .inl ⟨_, h2, rfl⟩, by rw [List.length_map]; exact hq.at (.int _)⟩
    · cases hk
  | list =>
    simp only [bltR] at hk
    split at hk
    · cases hk
      obtain ⟨v, rfl, h1⟩ := hd.one
      obtain ⟨a, vs, rfl, h2, r1⟩ := h1.lst zh
      exact call_list_of pins s σ H _ us Q I rs ⟨a, vs, rfl, .inl (.inl (.inl h2)), fun l hl => hq l _ hl r1⟩
    · cases hk
      obtain ⟨v, rfl, h1⟩ := hd.one
      obtain ⟨a, vs, rfl, h2, r1⟩ := h1.tup zh
      exact call_list_of pins s σ H _ us Q I rs ⟨a, vs, rfl, .inr h2, fun l hl => hq l _ hl r1⟩
    · split at hk
      · rename_i hz
        cases hk
        obtain ⟨v, rfl, h1⟩ := hd.one
        obtain ⟨rfl, o1⟩ := h1.str
        exact call_list_S hc pins s σ H _ us Q I rs ⟨_, rfl, hz, fun l hl => hq l _ hl (reps_chars o1)⟩
      · cases hk
    · cases hk
  | tuple =>
    simp only [bltR] at hk
    split at hk
    · cases hk
      obtain ⟨v, rfl, h1⟩ := hd.one
      obtain ⟨a, vs, rfl, h2, r1⟩ := h1.lst zh
      exact call_tuple_of pins s σ H _ us Q I rs ⟨a, vs, rfl, .inl ⟨.inl (.inl h2), fun l hl => hq _ _ _ (.new hl) (.tup (.inl (.inl upd_same)) (r1.mono (same_upd (zh.free hl))))⟩⟩
    · cases hk
      obtain ⟨v, rfl, h1⟩ := hd.one
      obtain ⟨a, vs, e, h2, r1⟩ := h1.tup zh
      subst e
      refine call_tuple_of pins s σ H _ us Q I rs ⟨a, vs, rfl, .inr ⟨h2, ?_⟩⟩
      rcases h1 with h1 | ⟨_, _, _, _, e, _⟩
      · exact hq.at h1
      · cases e
    · cases hk
  | str =>
    simp only [bltR] at hk
    split at hk
    · split at hk
      · rename_i i hi
        cases hk
        obtain ⟨v, rfl, h1⟩ := hd.one
        have e1 := h1.int
        subst e1
        have e : i = 0 ∨ i = 1 ∨ i = 2 ∨ i = 3 ∨ i = 4 ∨ i = 5 ∨ i = 6 ∨ i = 7 ∨ i = 8 ∨ i = 9 := by omega
        refine call_str_int pins s σ H _ us Q I rs ⟨i, rfl, ?_, ?_⟩
        · rcases e with rfl | rfl | rfl | rfl | rfl | rfl | rfl | rfl | rfl | rfl <;> decide +kernel
        · have e2 : Str.ofString (toString i) = sOf [48 + i.toNat] := by
            rcases e with rfl | rfl | rfl | rfl | rfl | rfl | rfl | rfl | rfl | rfl <;> decide +kernel
          rw [e2]
          exact hq.at (.str _ (fun c hc => by rw [List.mem_singleton.mp hc]; omega))
      · cases hk
    · cases hk
  | int =>
    simp only [bltR] at hk
    split at hk
    · cases hk
      obtain ⟨v, rfl, h1⟩ := hd.one
      exact call_int1 pins s σ H _ us Q I rs (.inl ⟨_, by rw [h1.int], hq.at (.int _)⟩)
    · cases hk
      obtain ⟨v, rfl, h1⟩ := hd.one
      exact call_int1 pins s σ H _ us Q I rs (.inr ⟨_, by rw [h1.bl], hq.at (.int _)⟩)
    · split at hk
      · rename_i hz
        cases hk
        obtain ⟨v, rfl, h1⟩ := hd.one
        exact call_int_str pins s σ H _ us Q I rs ⟨_, _, by rw [h1.str.1], int_digit hz, by rw [sOf_len]; show 1 ≤ 640; decide, hq.at (.int _)⟩
      · cases hk
    · cases hk
  | abs =>
    simp only [bltR] at hk
    split at hk
    · cases hk
      obtain ⟨v, rfl, h1⟩ := hd.one
      exact call_abs pins s σ H _ us Q I rs ⟨_, by rw [h1.int], hq.at (.int _)⟩
    · cases hk
  | min2 =>
    simp only [bltR] at hk
    split at hk
    · cases hk
      obtain ⟨v, w, rfl, h1, h2⟩ := hd.two
      exact call_min2 hc pins s σ H _ us Q I rs ⟨_, _, by rw [h1.int, h2.int], hq.at (.int _)⟩
    · cases hk
  | max2 =>
    simp only [bltR] at hk
    split at hk
    · cases hk
      obtain ⟨v, w, rfl, h1, h2⟩ := hd.two
      exact call_max2 hc pins s σ H _ us Q I rs ⟨_, _, by rw [h1.int, h2.int], hq.at (.int _)⟩
    · cases hk
  | sum =>
    simp only [bltR] at hk
    split at hk
    · obtain ⟨ns, h3, h4⟩ := Option.map_eq_some_iff.mp hk
      subst h4
      obtain ⟨v, rfl, h1⟩ := hd.one
      obtain ⟨a, vs, rfl, h2, r1⟩ := h1.lst zh
      have e := r1.ints h3
      subst e
      exact cr_sum hc pins s σ H _ us Q I rs ⟨a, ns, rfl, .inl (.inl h2), hq.at (.int _)⟩
    · cases hk
  | sorted => cases hk
  | all =>
    simp only [bltR] at hk
    split at hk
    · obtain ⟨ns, h3, h4⟩ := Option.map_eq_some_iff.mp hk
      subst h4
      obtain ⟨v, rfl, h1⟩ := hd.one
      obtain ⟨a, vs, rfl, h2, r1⟩ := h1.lst zh
      have e := r1.bls h3
      subst e
      exact cr_all hc pins s σ H _ us Q I rs ⟨a, ns, rfl, .inl (.inl h2), hq.at (.bl _)⟩
    · cases hk
  | any =>
    simp only [bltR] at hk
    split at hk
    · obtain ⟨ns, h3, h4⟩ := Option.map_eq_some_iff.mp hk
      subst h4
      obtain ⟨v, rfl, h1⟩ := hd.one
      obtain ⟨a, vs, rfl, h2, r1⟩ := h1.lst zh
      have e := r1.bls h3
      subst e
      exact cr_any hc pins s σ H _ us Q I rs ⟨a, ns, rfl, .inl (.inl h2), hq.at (.bl _)⟩
    · cases hk

/-! methods -/
def rMet (K : PySem.W.Frag) (m : Met) : V → List V → Hp → VK → Prop := fun x xs H Q => ∃ d ds A0 r new, Same A0 H ∧ Rd K A0 H d x ∧ Reps K A0 ds xs ∧ metR m d ds = some (r, new) ∧
  match new with
  | none => New K A0 H r Q
  | some es => ∃ a r', x = .ref a ∧ r = .v r' ∧ ∀ v vs, Rep K A0 r' v → Reps K A0 es vs → Q v (upd H a (.lst vs))
def mid : Met → String
  | .append => "list.append" | .pop => "list.pop" | .popAt => "list.pop" | .index => "list.index" | .reverse => "list.reverse" | .clear => "list.clear" | .insert => "list.insert" | .find1 => "str.find" | .swith => "str.startswith" | .ewith => "str.endswith" | .join => "str.join" | .find2 => "str.find" | .rfind => "str.rfind" | .count => "str.count" | .split => "str.split"
theorem Reps.one {K : PySem.W.Frag} {A0 : Hp} {d : D} {vs : List V} (h : Reps K A0 [d] vs) : ∃ v, vs = [v] ∧ Rep K A0 d v := by
  cases h with | cons a b => cases b; exact ⟨_, rfl, a⟩
theorem Reps.two {K : PySem.W.Frag} {A0 : Hp} {d e : D} {vs : List V} (h : Reps K A0 [d, e] vs) : ∃ v w, vs = [v, w] ∧ Rep K A0 d v ∧ Rep K A0 e w := by
  cases h with | cons a b => cases b with | cons b c => cases c; exact ⟨_, _, rfl, a, b⟩
theorem Reps.reverse {K : PySem.W.Frag} {A0 : Hp} : ∀ {ds : List D} {vs : List V}, Reps K A0 ds vs → Reps K A0 ds.reverse vs.reverse
  | _, _, .nil => .nil
  | _, _, .cons a b => by rw [List.reverse_cons, List.reverse_cons]; exact b.reverse.append (.cons a .nil)
theorem from_pos {n : Nat} {i : Int} (h : 0 ≤ i) : PySem.fromIndex n i = i.toNat := by
  unfold PySem.fromIndex
  rw [if_neg (by omega), Int.max_eq_right h]
theorem txt_find (s t : List Nat) : Txt.find (sOf s) (sOf t) = fndI (fnd s t 0) := by
  unfold Txt.find
  have h := (occ_fnd s t 0).1
  cases h0 : PySem.Builtin.Str.occurrences (sOf s) (sOf t) 0 (sOf s).length 1 with
  | nil => rw [h0] at h; exact h
  | cons a r => rw [h0] at h; exact h
theorem txt_find3 (s t : List Nat) {i : Int} (hi : 0 ≤ i) : Txt.find3 (sOf s) (sOf t) i = fndI (fnd s t i.toNat) := by
  unfold Txt.find3
  rw [from_pos hi]
  have h := (occ_fnd s t i.toNat).1
  cases h0 : PySem.Builtin.Str.occurrences (sOf s) (sOf t) i.toNat (sOf s).length 1 with
  | nil => rw [h0] at h; exact h
  | cons a r => rw [h0] at h; exact h
theorem txt_rfind (s t : List Nat) : Txt.rfind (sOf s) (sOf t) = fndI (rfn s t) := by
  unfold Txt.rfind
  have h := last_rfn s t
  cases h0 : PySem.Builtin.Str.lastOccurrence (sOf s) (sOf t) 0 (sOf s).length with
  | none => rw [h0] at h; exact h
  | some a => rw [h0] at h; exact h
theorem swith_eq (s t : List Nat) : Txt.startswith (sOf s) (sOf t) = t.isPrefixOf s := by
  unfold Txt.startswith
  rw [StrLaws.subAt_eq, sOf_len, sOf_len, Bool.eq_iff_iff, Bool.and_eq_true, decide_eq_true_eq, List.isPrefixOf_iff_prefix, List.prefix_iff_eq_take]
  show (0 + t.length ≤ s.length ∧ ((s.drop 0).take t.length == t) = true) ↔ _
  rw [beq_iff_eq, List.drop_zero]
  constructor
  · exact fun h => h.2.symm
  · intro h
    have := congrArg List.length h
    rw [List.length_take] at this
    exact ⟨by omega, h.symm⟩
theorem Reps.nil' {K : PySem.W.Frag} {A0 : Hp} {vs : List V} (h : Reps K A0 [] vs) : vs = [] := by cases h; rfl
theorem join_ok {ys : List (List Nat)} {s : List Nat} (h : (ys.map List.length).sum + ys.length * s.length ≤ SZ) : ((ys.map sOf).map (·.length)).sum + (ys.map sOf).length * (sOf s).length ≤ 16777216 := by
  rw [List.map_map, List.length_map, sOf_len]
  have : ((fun x : Str => x.length) ∘ sOf) = List.length := by funext x; exact sOf_len x
  rw [this]; exact h
theorem SOk.join {s : List Nat} {l : List (List Nat)} (h : SOk s) (k : ∀ x ∈ l, SOk x) : SOk (Z.joinL s l) := fun c hc => by
  rcases mem_joinL hc with q | ⟨x, q1, q2⟩
  · exact h c q
  · exact k x q1 c q2
theorem mapped (l : List (List Nat)) : (l.map fun s => V.str (sOf s)) = (l.map sOf).map V.str := by rw [List.map_map]; rfl
theorem met_any (m : Met) : MtR X (mid m) (rMet X.K m) := by
  intro pins s σ H x xs v us Q I rx rs h
  obtain ⟨d, ds, A0, r, new, zh, hd, ha, hk, hq⟩ := h
  cases m with
  | append =>
    simp only [metR] at hk
    split at hk
    · split at hk
      · rename_i hz
        cases hk
        obtain ⟨a, r', rfl, e, hq⟩ := hq
        cases e
        obtain ⟨w, rfl, r1⟩ := ha.one
        obtain ⟨b, vs, e, h1, r2⟩ := hd.lst zh
        cases e
        exact mt_append pins s σ H _ _ v us Q I rx rs ⟨_, vs, w, rfl, rfl, h1, by rw [← r2.length]; exact (by rw [sizeLine_eq]; exact hz), hq _ _ .non (r2.append (.cons r1 .nil))⟩
      · cases hk
    · cases hk
  | pop =>
    simp only [metR] at hk
    split at hk
    · rename_i es
      obtain ⟨y, h3, h4⟩ := Option.map_eq_some_iff.mp hk
      cases h4
      obtain ⟨a, r', rfl, e, hq⟩ := hq
      cases e
      have := ha.nil'
      subst this
      obtain ⟨b, vs, e, h1, r2⟩ := hd.lst zh
      cases e
      obtain ⟨w, h5, r5⟩ := r2.get h3
      rw [r2.length] at h5
      refine mt_pop pins s σ H _ _ v us Q I rx rs ⟨_, vs, w, rfl, rfl, h1, h5, hq _ _ r5 ?_⟩
      rw [List.dropLast_eq_take, List.dropLast_eq_take, r2.length]
      exact r2.take _
    · cases hk
  | popAt =>
    simp only [metR] at hk
    split at hk
    · rename_i es i
      split at hk
      · rename_i hb
        obtain ⟨k, h2, h30⟩ := Option.bind_eq_some_iff.mp hk
        obtain ⟨y, h3, h4⟩ := Option.map_eq_some_iff.mp h30
        cases h4
        obtain ⟨a, r', rfl, e, hq⟩ := hq
        cases e
        obtain ⟨w1, rfl, r1⟩ := ha.one
        obtain ⟨b, vs, e, h1, r2⟩ := hd.lst zh
        cases e
        obtain ⟨w, h5, r5⟩ := r2.get h3
        have e63 : (2 ^ 63 : Int) = 9223372036854775808 := by decide
        rw [r2.length] at h2
        refine mt_popAt pins s σ H _ _ v us Q I rx rs ⟨_, vs, i, k, w, rfl, by rw [Rd.int (H := H) (.inl r1)], h1, by rw [e63]; exact (okI_iff hb).1, by rw [e63]; exact (okI_iff hb).2, (ixN_seq h2).1, h5, hq _ _ r5 (r2.eraseIdx k)⟩
      · cases hk
    · cases hk
  | index =>
    simp only [metR] at hk
    split at hk
    · rename_i es y
      split at hk
      · rename_i hf
        obtain ⟨j, h3, h4⟩ := Option.map_eq_some_iff.mp hk
        cases h4
        rw [Bool.and_eq_true] at hf
        obtain ⟨w1, rfl, r1⟩ := ha.one
        obtain ⟨a, vs, rfl, h1, r2⟩ := hd.lst zh
        have rd1 : Rd X.K A0 H y w1 := .inl r1
        obtain ⟨q1, _⟩ := inV_D rd1 hf.1 r2 hf.2
        obtain ⟨hj, hj1, hj2⟩ := List.findIdx?_eq_some_iff_getElem.mp h3
        obtain ⟨z, h5, r5⟩ := r2.get (List.getElem?_eq_getElem hj)
        have fl : ∀ x ∈ es, x.flat = true := fun x hx => List.all_eq_true.mp hf.2 x hx
        refine mt_index pins s σ H _ _ v us Q I rx rs ⟨a, vs, w1, j, z, rfl, rfl, .inl (.inl h1), flat_V rd1 hf.1, q1, h5, ?_, fun m z' hm hz => ?_, hq.at (.int _)⟩
        · rw [eqV_D (.inl r5) rd1 (fl _ (List.getElem_mem hj)) hf.1]; exact hj1
        · have hm' : m < es.length := Nat.lt_trans hm hj
          obtain ⟨z2, h6, r6⟩ := r2.get (List.getElem?_eq_getElem hm')
          rw [hz] at h6
          cases h6
          rw [eqV_D (.inl r6) rd1 (fl _ (List.getElem_mem hm')) hf.1]
          simpa using hj2 m hm
      · cases hk
    · cases hk
  | join =>
    simp only [metR] at hk
    split at hk
    · obtain ⟨ys, h2, h3⟩ := Option.bind_eq_some_iff.mp hk
      split at h3
      · rename_i hz
        cases h3
        obtain ⟨e1, o1⟩ := hd.str
        obtain ⟨w, rfl, r1⟩ := ha.one
        obtain ⟨a, vs, rfl, h4, r4⟩ := Rd.lst zh (.inl r1)
        obtain ⟨rfl, o2⟩ := r4.strs h2
        refine mt_join pins s σ H _ _ v us Q I rx rs ⟨_, a, ys.map sOf, e1, rfl, .inl (.inl (.inl (by rw [← mapped]; exact h4))), join_ok hz, ?_⟩
        rw [join_sOf]; exact hq.at (.str _ (o1.join o2))
      · cases h3
    · obtain ⟨ys, h2, h3⟩ := Option.bind_eq_some_iff.mp hk
      split at h3
      · rename_i hz
        cases h3
        obtain ⟨e1, o1⟩ := hd.str
        obtain ⟨w, rfl, r1⟩ := ha.one
        obtain ⟨a, vs, rfl, h4, r4⟩ := Rd.tup zh (.inl r1)
        obtain ⟨rfl, o2⟩ := r4.strs h2
        refine mt_join pins s σ H _ _ v us Q I rx rs ⟨_, a, ys.map sOf, e1, rfl, .inr (by rw [← mapped]; exact h4), join_ok hz, ?_⟩
        rw [join_sOf]; exact hq.at (.str _ (o1.join o2))
      · cases h3
    · cases hk
  | find1 =>
    simp only [metR] at hk
    split at hk
    · cases hk
      obtain ⟨e1, o1⟩ := hd.str
      obtain ⟨w, rfl, r1⟩ := ha.one
      obtain ⟨e2, o2⟩ := Rd.str (H := H) (.inl r1)
      subst e1 e2
      refine mt_find pins s σ H _ _ v us Q I rx rs ⟨_, _, rfl, rfl, ?_⟩
      rw [txt_find]
      exact hq.at (.int _)
    · cases hk
  | find2 =>
    simp only [metR] at hk
    split at hk
    · split at hk
      · rename_i hi
        cases hk
        obtain ⟨e1, o1⟩ := hd.str
        obtain ⟨w, w2, rfl, r1, r2⟩ := ha.two
        obtain ⟨e2, o2⟩ := Rd.str (H := H) (.inl r1)
        have e3 := Rd.int (H := H) (.inl r2)
        subst e1 e2 e3
        refine mt_find3 pins s σ H _ _ v us Q I rx rs ⟨_, _, _, rfl, rfl, ?_⟩
        rw [txt_find3 _ _ hi]
        exact hq.at (.int _)
      · cases hk
    · cases hk
  | rfind =>
    simp only [metR] at hk
    split at hk
    · cases hk
      obtain ⟨e1, o1⟩ := hd.str
      obtain ⟨w, rfl, r1⟩ := ha.one
      obtain ⟨e2, o2⟩ := Rd.str (H := H) (.inl r1)
      subst e1 e2
      refine mt_rfind pins s σ H _ _ v us Q I rx rs ⟨_, _, rfl, rfl, ?_⟩
      rw [txt_rfind]
      exact hq.at (.int _)
    · cases hk
  | count =>
    simp only [metR] at hk
    split at hk
    · cases hk
      obtain ⟨e1, o1⟩ := hd.str
      obtain ⟨w, rfl, r1⟩ := ha.one
      obtain ⟨e2, o2⟩ := Rd.str (H := H) (.inl r1)
      subst e1 e2
      refine mt_count pins s σ H _ _ v us Q I rx rs ⟨_, _, rfl, rfl, ?_⟩
      rw [count_sign]
      exact hq.at (.int _)
    · cases hk
  | swith =>
    simp only [metR] at hk
    split at hk
    · cases hk
      obtain ⟨e1, o1⟩ := hd.str
      obtain ⟨w, rfl, r1⟩ := ha.one
      obtain ⟨e2, o2⟩ := Rd.str (H := H) (.inl r1)
      subst e1 e2
      refine mt_startswith pins s σ H _ _ v us Q I rx rs ⟨_, _, rfl, rfl, ?_⟩
      rw [swith_eq]
      exact hq.at (.bl _)
    · cases hk
  | ewith => cases hk
  | split => cases hk
  | reverse =>
    simp only [metR] at hk
    split at hk
    · cases hk
      obtain ⟨a, r', rfl, e, hq⟩ := hq
      cases e
      have := ha.nil'
      subst this
      obtain ⟨b, vs, e, h1, r2⟩ := hd.lst zh
      cases e
      exact mt_reverse pins s σ H _ _ v us Q I rx rs ⟨_, vs, rfl, rfl, h1, hq _ _ .non r2.reverse⟩
    · cases hk
  | clear =>
    simp only [metR] at hk
    split at hk
    · cases hk
      obtain ⟨a, r', rfl, e, hq⟩ := hq
      cases e
      have := ha.nil'
      subst this
      obtain ⟨b, vs, e, h1, r2⟩ := hd.lst zh
      cases e
      exact mt_clear pins s σ H _ _ v us Q I rx rs ⟨_, vs, rfl, rfl, h1, hq _ _ .non .nil⟩
    · cases hk
  | insert =>
    simp only [metR] at hk
    split at hk
    · split at hk
      · rename_i hi
        cases hk
        obtain ⟨a, r', rfl, e, hq⟩ := hq
        cases e
        obtain ⟨w, w2, rfl, r1, r3⟩ := ha.two
        have e3 := Rd.int (H := H) (.inl r1)
        subst e3
        obtain ⟨b, vs, e, h1, r2⟩ := hd.lst zh
        cases e
        have e63 : (2 ^ 63 : Int) = 9223372036854775808 := by decide
        exact mt_insert pins s σ H _ _ v us Q I rx rs ⟨_, vs, _, w2, rfl, rfl, h1, by rw [← r2.length, sizeLine_eq]; exact hi.1, hi.2.1, by rw [e63]; exact (okI_iff hi.2.2).2, hq _ _ .non (((r2.take _).append (.cons r3 .nil)).append (r2.drop _))⟩
      · cases hk
    · cases hk
def rJoi (K : PySem.W.Frag) : V → List V → Hp → VK → Prop := fun x xs H Q => ∃ d ds A0 r, Same A0 H ∧ Rd K A0 H d x ∧ Rds K A0 H ds xs ∧ (metR .join d ds).map (·.1) = some r ∧ New K A0 H r Q
theorem joi_any : MtR X "str.join" (rJoi X.K) := by
  intro pins s σ H x xs v us Q I rx rs h
  obtain ⟨d, ds, A0, r, zh, hd, ha, hk0, hq⟩ := h
  obtain ⟨⟨r0, n0⟩, hk, hr⟩ := Option.map_eq_some_iff.mp hk0
  dsimp only at hr
  subst hr
  simp only [metR] at hk
  split at hk
  · obtain ⟨ys, h2, h3⟩ := Option.bind_eq_some_iff.mp hk
    split at h3
    · rename_i hz
      cases h3
      obtain ⟨e1, o1⟩ := hd.str
      obtain ⟨w, rfl, r1⟩ := ha.one
      obtain ⟨a, vs, rfl, h4, r4⟩ := Rd.lst zh r1
      obtain ⟨rfl, o2⟩ := r4.strs h2
      refine mt_join pins s σ H _ _ v us Q I rx rs ⟨_, a, ys.map sOf, e1, rfl, .inl (.inl (.inl (by rw [← mapped]; exact h4))), join_ok hz, ?_⟩
      rw [join_sOf]; exact hq.at (.str _ (o1.join o2))
    · cases h3
  · obtain ⟨ys, h2, h3⟩ := Option.bind_eq_some_iff.mp hk
    split at h3
    · rename_i hz
      cases h3
      obtain ⟨e1, o1⟩ := hd.str
      obtain ⟨w, rfl, r1⟩ := ha.one
      obtain ⟨a, vs, rfl, h4, r4⟩ := Rd.tup zh r1
      obtain ⟨rfl, o2⟩ := r4.strs h2
      refine mt_join pins s σ H _ _ v us Q I rx rs ⟨_, a, ys.map sOf, e1, rfl, .inr (by rw [← mapped]; exact h4), join_ok hz, ?_⟩
      rw [join_sOf]; exact hq.at (.str _ (o1.join o2))
    · cases h3
  · cases hk
end
end Z

/-! Z: a run's outcome as a wish; expressions. -/
namespace Z
open PySem PySem.Spec PyProof.Rows L2

/-- keep for expressions: the model's slots stay -/
abbrev KeepE (s s' : S) (σ : List (Option V)) : Prop := Keep s σ s' σ
section
variable (K : PySem.W.Frag) (W : WX) (ca : Nat → Value)
/-- what a run's outcome must lead to -/
def Out {α : Type} (A0 F : Hp) (s : S) (σ : List (Option V)) (r : Ro α) (k : α → Hp → S → Hp → Prop) : Prop := match r with
  | .ok a s' => ∀ A1 H', Ext A0 F A1 → KeepE s s' σ → R K A1 F s' σ H' → k a A1 s' H'
  | .ex c s' => ∀ A1 H', Ext A0 F A1 → KeepE s s' σ → R K A1 F s' σ H' → W (ca c) none σ H'
  | .bad => False
def tE (f : S → Ro Rv) : TE := fun σ H Q => ∃ A0 F s, R K A0 F s σ H ∧ Out K W ca A0 F s σ (f s) fun r A1 s' H' => ∀ v, RV K A1 F s' σ H' v r → Q v H'
def tEF (f : S → Ro D) : TE := fun σ H Q => ∃ A0 F s, R K A0 F s σ H ∧ Out K W ca A0 F s σ (f s) fun d A1 s' H' => ∀ v, Rep K A1 d v → Q v H'
def tT (f : S → Ro Bool) : TT := fun σ H Q => ∃ A0 F s, R K A0 F s σ H ∧ Out K W ca A0 F s σ (f s) fun b A1 s' H' => Q b H'
def tO (f : S → Ro (Option Int)) : TO := fun σ H Q => ∃ A0 F s, R K A0 F s σ H ∧ Out K W ca A0 F s σ (f s) fun o A1 s' H' => Q o H'
/-- operands: fixed, or what a slot holds -/
inductive RVs (A : Hp) (σ : List (Option V)) : List Rv → List V → Prop where
  | nil : RVs A σ [] []
  | v {d : D} {v : V} {rs : List Rv} {vs : List V} : Rep K A d v → RVs A σ rs vs → RVs A σ (.v d :: rs) (v :: vs)
  | b {i : Nat} {v : V} {rs : List Rv} {vs : List V} : σ[i]? = some (some v) → RVs A σ rs vs → RVs A σ (.b i :: rs) (v :: vs)
def tA (f : S → Ro (List Rv)) : TA := fun σ H Q => ∃ A0 F s, R K A0 F s σ H ∧ Out K W ca A0 F s σ (f s) fun rs A1 s' H' => ∀ vs, RVs K A1 σ rs vs → Q vs H'
def tAF (f : S → Ro (List D)) : TA := fun σ H Q => ∃ A0 F s, R K A0 F s σ H ∧ Out K W ca A0 F s σ (f s) fun ds A1 s' H' => ∀ vs, Reps K A1 ds vs → Q vs H'
end
section
variable {K : PySem.W.Frag} {W : WX} {ca : Nat → Value} {A0 A1 F H H' : Hp} {s s' : S} {σ : List (Option V)}
theorem Out.bind {α β : Type} {r : Ro α} {f : α → S → Ro β} {k : β → Hp → S → Hp → Prop} (h : Out K W ca A0 F s σ (r.bind f) k) :
    Out K W ca A0 F s σ r fun a A1 s1 H1 => Out K W ca A1 F s1 σ (f a s1) k := by
  cases r with
  | bad => exact h
  | ex c s1 => exact h
  | ok a s1 =>
    intro A1 H1 e1 k1 r1
    show Out K W ca A1 F s1 σ (f a s1) k
    replace h : Out K W ca A0 F s σ (f a s1) k := h
    cases q : f a s1 with
    | bad => rw [q] at h; exact h
    | ex c s2 => rw [q] at h; exact fun A2 H2 e2 k2 r2 => h A2 H2 (e1.trans e2) (k1.trans k2) r2
    | ok b s2 => rw [q] at h; exact fun A2 H2 e2 k2 r2 => h A2 H2 (e1.trans e2) (k1.trans k2) r2
theorem Out.mono {α : Type} {r : Ro α} {k k' : α → Hp → S → Hp → Prop} (h : Out K W ca A0 F s σ r k)
    (m : ∀ a A1 s' H', Ext A0 F A1 → KeepE s s' σ → R K A1 F s' σ H' → k a A1 s' H' → k' a A1 s' H') : Out K W ca A0 F s σ r k' := by
  cases r with
  | bad => exact h
  | ex c s1 => exact h
  | ok a s1 => exact fun A1 H1 e1 k1 r1 => m _ _ _ _ e1 k1 r1 (h A1 H1 e1 k1 r1)
/-- at once -/
theorem Out.now {α : Type} {a : α} {k : α → Hp → S → Hp → Prop} (h : Out K W ca A0 F s σ (.ok a s) k) (r : R K A0 F s σ H) : k a A0 s H := h A0 H .refl .refl r
theorem Out.ofO {α : Type} {o : Option α} {k : α → Hp → S → Hp → Prop} (h : Out K W ca A0 F s σ (ofO o s) k) : ∃ a, o = some a ∧ Out K W ca A0 F s σ (.ok a s) k := by
  cases o with
  | none => exact h.elim
  | some a => exact ⟨a, rfl, h⟩
theorem PE.imp {X : Cx} {e : Expr} {t t' : TE} (h : PE X e t) (m : ∀ σ H Q, t' σ H Q → t σ H Q) : PE X e t' := ⟨fun pins s σ H Q I q => h.run pins s σ H Q I (m σ H Q q)⟩
theorem PT.imp {X : Cx} {e : Expr} {t t' : TT} (h : PT X e t) (m : ∀ σ H Q, t' σ H Q → t σ H Q) : PT X e t' := ⟨fun pins s σ H Q I q => h.run pins s σ H Q I (m σ H Q q)⟩
theorem PA.imp {X : Cx} {e : List Expr} {t t' : TA} (h : PA X e t) (m : ∀ σ H Q, t' σ H Q → t σ H Q) : PA X e t' := ⟨fun pos pins s σ H Q I q => h.run pos pins s σ H Q I (m σ H Q q)⟩
theorem PO.imp {X : Cx} {e : Option Expr} {t t' : TO} (h : PO X e t) (m : ∀ σ H Q, t' σ H Q → t σ H Q) : PO X e t' := ⟨fun pins s σ H Q I q => h.run pins s σ H Q I (m σ H Q q)⟩
theorem RVs.mono {A A' : Hp} (e : Same A A') : ∀ {rs : List Rv} {vs : List V}, RVs K A σ rs vs → RVs K A' σ rs vs
  | _, _, .nil => .nil
  | _, _, .v r t => .v (r.mono e) (RVs.mono e t)
  | _, _, .b r t => .b r (RVs.mono e t)
/-- a result that isn't an own list stays what it is -/
theorem RV.keep {A A' : Hp} {H H' : Hp} {s s' : S} {v : V} {r : Rv} (h : RV K A F s σ H v r) (n : ∀ ds, r ≠ .o ds) (e : Same A A') : RV K A' F s' σ H' v r := by
  cases r with
  | v d => exact Rep.mono e h
  | o ds => exact absurd rfl (n ds)
  | b i => exact h
/-- an own list of nobody's, fixed -/
theorem Out.opd {r : Ro Rv} {k : Rv → Hp → S → Hp → V → Prop} (h : Out K W ca A0 F s σ (r.bind fun x s1 => .ok (opd x) s1) fun x A1 s1 H1 => ∀ v, RV K A1 F s1 σ H1 v x → k x A1 s1 H1 v) (P : V → Hp → Prop)
    (m : ∀ x A1 s1 H1 v, k x A1 s1 H1 v → P v H1) : Out K W ca A0 F s σ r fun x A1 s1 H1 => ∀ v, RV K A1 F s1 σ H1 v x → P v H1 := by
  cases r with
  | bad => exact h
  | ex c s1 => exact h
  | ok x s1 =>
    intro A1 H1 e1 k1 r1 v rv
    cases x with
    | v d => exact m _ _ _ _ _ (h A1 H1 e1 k1 r1 v rv)
    | b i => exact m _ _ _ _ _ (h A1 H1 e1 k1 r1 v rv)
    | o ds =>
      obtain ⟨a, vs, rfl, h1, h2, z, f, o⟩ := rv
      exact m _ _ _ _ _ (h (upd A1 a (.lst vs)) H1 (e1.trans (.fix z f)) k1 (r1.fixO h1 z o) (.ref a) (.lst upd_same (h2.mono (same_upd z))))
theorem set_at {α : Type} {l : List α} {i : Nat} {x : α} (h : l[i]? = some x) : i < l.length := (List.getElem?_eq_some_iff.mp h).1
/-- fixed for good -/
theorem tE_frz {f : S → Ro Rv} {H : Hp} {Q : VK} (h : tEF K W ca (fun s => (f s).bind frz) σ H Q) : tE K W ca f σ H Q := by
  obtain ⟨A0, F, s, r0, h⟩ := h
  refine ⟨A0, F, s, r0, ?_⟩
  have h2 := h.bind
  cases q : f s with
  | bad => rw [q] at h2; exact h2
  | ex c s1 => rw [q] at h2; exact h2
  | ok x s1 =>
    rw [q] at h2
    intro A1 H1 e1 k1 r1 v rv
    have h3 := h2 A1 H1 e1 k1 r1
    cases x with
    | v d => exact h3.now r1 v rv
    | o ds =>
      obtain ⟨a, vs, rfl, h4, h5, z, f, o⟩ := rv
      exact h3 (upd A1 a (.lst vs)) H1 (.fix z f) .refl (r1.fixO h4 z o) (.ref a) (.lst upd_same (h5.mono (same_upd z)))
    | b i =>
      replace h3 : Out K W ca A1 F s1 σ (match s1.e[i]? with
        | some (.sh d) => .ok d s1
        | some (.lf d) => .ok d s1
        | some (.ow ds) => .ok (.lst ds) ⟨s1.e.set i (.sh (.lst ds))⟩
        | some (.le ds) => .ok (.lst ds) ⟨s1.e.set i (.lf (.lst ds))⟩
        | _ => .bad) fun d A1 s' H' => ∀ v, Rep K A1 d v → Q v H' := h3
      replace rv : σ[i]? = some (some v) := rv
      cases hx : s1.e[i]? with
      | none => rw [hx] at h3; exact h3.elim
      | some x =>
        rw [hx] at h3
        obtain ⟨o, eo, rs⟩ := r1.sl i x hx
        rw [rv] at eo; cases eo
        cases rs with
        | no => exact h3.elim
        | sh q1 => exact h3.now r1 v q1
        | lf q1 => exact h3.now r1 v q1
        | lk _ _ => exact h3.elim
        | ow q1 q2 =>
          obtain ⟨a, vs, e2, e3, z, f, r2, r3⟩ := r1.fixS (y := .sh (.lst _)) hx (.inl rfl) (.inl rfl)
          rw [rv] at e2; cases e2
          refine h3 _ H1 (.fix z f) (fun j y hy py => ⟨rfl, y, ?_, .refl⟩) r2 _ r3
          rw [List.getElem?_set_ne (fun e => by subst e; rw [hx] at hy; cases hy; cases py)]
          exact hy
        | le q1 q2 =>
          obtain ⟨a, vs, e2, e3, z, f, r2, r3⟩ := r1.fixS (y := .lf (.lst _)) hx (.inr rfl) (.inr rfl)
          rw [rv] at e2; cases e2
          refine h3 _ H1 (.fix z f) (fun j y hy py => ⟨rfl, ?_⟩) r2 _ r3
          by_cases e : i = j
          · subst e
            rw [hx] at hy; cases hy
            exact ⟨_, List.getElem?_set_self (set_at hx), .inr (.inl ⟨_, rfl⟩)⟩
          · exact ⟨y, by rw [List.getElem?_set_ne e]; exact hy, .refl⟩
/-- what New gives -/
theorem New.of {r : Rv} {Q : VK} (r0 : R K A0 F s σ H) (h : Out K W ca A0 F s σ (.ok r s) fun r A1 s' H' => ∀ v, RV K A1 F s' σ H' v r → Q v H') (nb : ∀ i, r ≠ .b i) : New K A0 H r Q := by
  cases r with
  | b i => exact absurd rfl (nb i)
  | v d =>
    intro v A1 H1 g rp
    cases g with
    | same => exact h.now r0 v rp
    | new hn =>
      obtain ⟨z, f, _⟩ := r0.none_of hn
      exact h _ _ (.fix z f) .refl (r0.grow hn) v rp
  | o ds =>
    intro a vs hn rp
    obtain ⟨z, f, o⟩ := r0.none_of hn
    exact h _ _ .refl .refl (r0.growH hn) (.ref a) ⟨a, vs, rfl, upd_same, rp, z, f, o⟩
end
end Z

/-! Z: expressions, one lemma a construct. -/
namespace Z
open PySem PySem.Spec PyProof.Rows L2

section
variable {K : PySem.W.Frag} {W : WX} {ca : Nat → Value} {A0 A1 F H H' : Hp} {s s' : S} {σ : List (Option V)}
theorem Out.ext {α : Type} {r : Ro α} {k : α → Hp → S → Hp → Prop} (h : Out K W ca A0 F s σ r k) (e : Ext A0 F A1) : Out K W ca A1 F s σ r k := by
  cases r with
  | bad => exact h
  | ex c s1 => exact fun A2 H2 e2 k2 r2 => h A2 H2 (e.trans e2) k2 r2
  | ok a s1 => exact fun A2 H2 e2 k2 r2 => h A2 H2 (e.trans e2) k2 r2
theorem RV.opd {r : Rv} {v : V} (r0 : R K A0 F s σ H) (h : RV K A0 F s σ H v r) : ∃ A1, Ext A0 F A1 ∧ R K A1 F s σ H ∧ RV K A1 F s σ H v (opd r) := by
  cases r with
  | v d => exact ⟨A0, .refl, r0, h⟩
  | b i => exact ⟨A0, .refl, r0, h⟩
  | o ds =>
    obtain ⟨a, vs, rfl, h1, h2, z, f, o⟩ := h
    exact ⟨_, .fix z f, r0.fixO h1 z o, .lst upd_same (h2.mono (same_upd z))⟩
theorem opd_no {r : Rv} : ∀ ds, opd r ≠ .o ds := by cases r <;> intro ds e <;> cases e
theorem cnt_opd (s : S) (r : Rv) : cnt s (opd r) = cnt s r := by cases r <;> rfl
theorem binR_nb {o : BOp} {d e : D} {r : Rv} (h : binR o d e = some r) : ∀ i, r ≠ .b i := by
  intro i q
  subst q
  have hi : ∀ c f, intR c f d e ≠ some (.b i) := fun c f h => by
    obtain ⟨_, _, _, _, _, h⟩ := intR_some h; cases h
  cases o with
  | add => replace h : addR d e = some (.b i) := h; unfold addR at h; split at h <;> first | (cases h; done) | (split at h <;> cases h)
  | mul => replace h : mulR d e = some (.b i) := h; unfold mulR at h; split at h <;> first | (cases h; done) | (split at h <;> cases h)
  | sub => exact hi _ _ h
  | fdiv => exact hi _ _ h
  | mod => exact hi _ _ h
  | pow => exact hi _ _ h
  | shl => exact hi _ _ h
  | shr => exact hi _ _ h
  | band => exact hi _ _ h
  | bor => exact hi _ _ h
  | bxor => exact hi _ _ h
theorem slcR_nb {d : D} {lo hi : Option Int} {r : Rv} (h : slcR d lo hi = some r) : ∀ i, r ≠ .b i := by
  intro i q
  subst q
  unfold slcR at h
  split at h <;> first | (cases h; done) | (split at h <;> cases h)
theorem bltR_nb {f : Blt} {ds : List D} {r : Rv} (h : bltR f ds = some r) : ∀ i, r ≠ .b i := by
  intro i q
  subst q
  cases f <;> simp only [bltR] at h <;> (try split at h) <;> first | (cases h; done) | (split at h <;> cases h; done) | (obtain ⟨_, _, h⟩ := Option.map_eq_some_iff.mp h; cases h)
theorem metR_nb {m : Met} {d : D} {ds : List D} {r : Rv} {x : Option (List D)} (h : metR m d ds = some (r, x)) : ∀ i, r ≠ .b i := by
  intro i q
  subst q
  cases m with
  | append => simp only [metR] at h; split at h <;> first | (cases h; done) | (split at h <;> cases h)
  | pop => simp only [metR] at h; split at h <;> first | (cases h; done) | (obtain ⟨_, _, h⟩ := Option.map_eq_some_iff.mp h; cases h)
  | popAt =>
    simp only [metR] at h
    split at h
    · split at h
      · obtain ⟨_, _, h⟩ := Option.bind_eq_some_iff.mp h
        obtain ⟨_, _, h⟩ := Option.map_eq_some_iff.mp h
        cases h
      · cases h
    · cases h
  | join =>
    simp only [metR] at h
    split at h <;> first | (cases h; done) | (obtain ⟨_, _, h⟩ := Option.bind_eq_some_iff.mp h; split at h <;> cases h)
  | index =>
    simp only [metR] at h
    split at h
    · split at h
      · obtain ⟨_, _, h⟩ := Option.map_eq_some_iff.mp h; cases h
      · cases h
    · cases h
  | ewith => cases h
  | split => cases h
  | _ => simp only [metR] at h; split at h <;> first | (cases h; done) | (split at h <;> cases h)
/-- two operands, then something of their contents -/
theorem two {fa fb : S → Ro Rv} {β : Type} {g : D → D → Option β} {k : β → Hp → S → Hp → Prop} {C : V → V → Hp → Prop} (r0 : R K A0 F s σ H)
    (h : Out K W ca A0 F s σ ((fa s).bind fun ra s1 => (fb s1).bind fun rb s2 => ofO ((cnt s2 ra).bind fun d => (cnt s2 rb).bind fun e => g d e) s2) k)
    (m : ∀ d e r A2 s2 H2 v w, Ext A0 F A2 → R K A2 F s2 σ H2 → Rd K A2 H2 d v → Rd K A2 H2 e w → g d e = some r → Out K W ca A2 F s2 σ (.ok r s2) k → C v w H2) :
    tE K W ca fa σ H fun v H1 => tE K W ca fb σ H1 fun w H2 => C v w H2 := by
  refine ⟨A0, F, s, r0, h.bind.mono fun ra A1 s1 H1 e1 k1 r1 h1 v rv => ?_⟩
  obtain ⟨A1', e1', r1', rv'⟩ := rv.opd r1
  refine ⟨A1', F, s1, r1', (h1.ext e1').bind.mono fun rb A2 s2 H2 e2 k2 r2 h2 w rw' => ?_⟩
  obtain ⟨r, hr, h3⟩ := h2.ofO
  obtain ⟨d, hd, hr⟩ := Option.bind_eq_some_iff.mp hr
  obtain ⟨e, he, hr⟩ := Option.bind_eq_some_iff.mp hr
  rw [← cnt_opd] at hd
  exact m d e r A2 s2 H2 v w (e1.trans (e1'.trans e2)) r2 (r2.cnt hd (RV.keep rv' opd_no e2.same)) (r2.cnt he rw') hr h3
end

section
variable {X : Cx} {W : WX} {ca : Nat → Value} {a b c : Expr} {fa fb fc : S → Ro Rv} {pos : Pos}
abbrev SE (X : Cx) (W : WX) (ca : Nat → Value) (e : Expr) (f : S → Ro Rv) : Prop := PE X e (tE X.K W ca f)
abbrev ST (X : Cx) (W : WX) (ca : Nat → Value) (e : Expr) (f : S → Ro Bool) : Prop := PT X e (tT X.K W ca f)
theorem se_cst {e : Expr} {d : D} {v : V} (h : PE X e (tC v)) (r : ∀ A0, Rep X.K A0 d v) : SE X W ca e (fun s => .ok (.v d) s) := PE.imp h fun σ H Q ⟨A0, F, s, r0, h⟩ => h.now r0 v (r A0)
theorem se_var {e : Expr} {i : Nat} (h : PE X e (tVar i)) : SE X W ca e (getV i) := PE.imp h fun σ H Q ⟨A0, F, s, r0, h⟩ => by
  unfold getV at h
  cases hx : s.e[i]? with
  | none => rw [hx] at h; exact h.elim
  | some x =>
    rw [hx] at h
    obtain ⟨o, eo, rs⟩ := r0.sl i x hx
    cases rs with
    | no => exact h.elim
    | sh q => exact ⟨_, eo, h.now r0 _ q⟩
    | lf q => exact ⟨_, eo, h.now r0 _ q⟩
    | ow q1 q2 => exact ⟨_, eo, h.now r0 _ eo⟩
    | le q1 q2 => exact ⟨_, eo, h.now r0 _ eo⟩
    | lk q1 q2 => exact ⟨_, eo, h.now r0 _ eo⟩
theorem se_bin {o : BOp} (ha : SE X W ca a fa) (hb : SE X W ca b fb) : SE X W ca (.BinOp a (bop o) b pos) (eBin o fa fb) :=
  PE.imp (pe_op (op_any o) ha hb) fun σ H Q ⟨A0, F, s, r0, h⟩ => two r0 h fun d e r A2 s2 H2 v w _ r2 rv rw' hr h3 =>
    ⟨d, e, A2, r, r2.zh, rv, rw', hr, New.of r2 h3 (binR_nb hr)⟩
theorem se_idx (ha : SE X W ca a fa) (hb : SE X W ca b fb) (hs : PlainIx b) : SE X W ca (.Subscript a b pos) (eIdx fa fb) :=
  PE.imp (pe_ix ix_any ha hb hs) fun σ H Q ⟨A0, F, s, r0, h⟩ => two r0 h fun d e r A2 s2 H2 v w _ r2 rv rw' hr h3 => by
    obtain ⟨x, h1, h2⟩ := Option.map_eq_some_iff.mp hr
    subst h2
    exact ⟨d, e, A2, x, r2.zh, rv, rw', h1, fun u hu => h3.now r2 u hu⟩
theorem st_cmp {o : COp} (hu : X.A.units + 64 < cLine) (ha : SE X W ca a fa) (hb : SE X W ca b fb) (hm : behindInMarks (cop o) b = false) : ST X W ca (.Compare a [cop o] [b] pos) (eCmpB o fa fb) :=
  PT.imp (pt_cmpR (cmp_any hu o) ha hb hm) fun σ H Q ⟨A0, F, s, r0, h⟩ => two r0 h fun d e r A2 s2 H2 v w _ r2 rv rw' hr h3 =>
    ⟨d, e, A2, r, r2.zh, rv, rw', hr, r, rfl, h3.now r2⟩
theorem toV_out {f : S → Ro Bool} {A0 F : Hp} {s : S} {σ : List (Option V)} {Q : VK} (h : Out X.K W ca A0 F s σ (toV f s) fun r A1 s' H' => ∀ v, RV X.K A1 F s' σ H' v r → Q v H') :
    Out X.K W ca A0 F s σ (f s) fun b A1 s' H' => Q (.bl b) H' := h.bind.mono fun b A1 s1 H1 e1 k1 r1 h1 => h1.now r1 _ (.bl b)
theorem se_cmp {o : COp} (hu : X.A.units + 64 < cLine) (ha : SE X W ca a fa) (hb : SE X W ca b fb) (hm : behindInMarks (cop o) b = false) : SE X W ca (.Compare a [cop o] [b] pos) (toV (eCmpB o fa fb)) :=
  PE.imp (pe_cmpR (cmp_any hu o) ha hb hm) fun σ H Q ⟨A0, F, s, r0, h⟩ => two r0 (toV_out h) fun d e r A2 s2 H2 v w _ r2 rv rw' hr h3 =>
    ⟨d, e, A2, r, r2.zh, rv, rw', hr, h3.now r2⟩
theorem chn_out {o p : COp} {A0 F H : Hp} {s : S} {σ : List (Option V)} {k : Bool → Hp → Prop} (r0 : R X.K A0 F s σ H) (h : Out X.K W ca A0 F s σ (eChnB o p fa fb fc s) fun b _ _ H' => k b H') :
    tE X.K W ca fa σ H fun x H1 => tE X.K W ca fb σ H1 fun y H2 => rCmp X.K o x y H2 fun z H3 => ∃ c, z = .bl c ∧ (if c = true then tE X.K W ca fc σ H3 fun w H4 => rCmp X.K p y w H4 (fun z H5 => ∃ c, z = .bl c ∧ k c H5) else k false H3) := by
  refine ⟨A0, F, s, r0, h.bind.mono fun ra A1 s1 H1 e1 k1 r1 h1 v rv => ?_⟩
  obtain ⟨A1', e1', r1', rv'⟩ := rv.opd r1
  refine ⟨A1', F, s1, r1', (h1.ext e1').bind.mono fun rb A2 s2 H2 e2 k2 r2 h2 w rw' => ?_⟩
  obtain ⟨A2', e2', r2', rw2⟩ := rw'.opd r2
  have h20 := (h2.ext e2').bind
  obtain ⟨c, hr, h3⟩ := h20.ofO
  obtain ⟨d, hd, hr⟩ := Option.bind_eq_some_iff.mp hr
  obtain ⟨e, he, hr⟩ := Option.bind_eq_some_iff.mp hr
  rw [← cnt_opd] at hd he
  have h4 := h3.now r2'
  refine ⟨d, e, A2', c, r2'.zh, r2'.cnt hd (RV.keep rv' opd_no (e2.trans e2').same), r2'.cnt he rw2, hr, c, rfl, ?_⟩
  cases c with
  | false => rw [if_neg Bool.false_ne_true] at h4 ⊢; exact h4.now r2'
  | true =>
    rw [if_pos rfl] at h4 ⊢
    refine ⟨A2', F, s2, r2', h4.bind.mono fun rc A3 s3 H3 e3 k3 r3 h5 u ru => ?_⟩
    obtain ⟨q, hr2, h6⟩ := h5.ofO
    obtain ⟨d2, hd2, hr2⟩ := Option.bind_eq_some_iff.mp hr2
    obtain ⟨e4, he2, hr2⟩ := Option.bind_eq_some_iff.mp hr2
    rw [← cnt_opd] at hd2
    exact ⟨d2, e4, A3, q, r3.zh, r3.cnt hd2 (RV.keep rw2 opd_no e3.same), r3.cnt he2 ru, hr2, q, rfl, h6.now r3⟩
theorem st_chn {o p : COp} (hu : X.A.units + 64 < cLine) (ha : SE X W ca a fa) (hb : SE X W ca b fb) (hc : SE X W ca c fc) (hm : lastMarks [cop o, cop p] [b, c] = false) : ST X W ca (.Compare a [cop o, cop p] [b, c] pos) (eChnB o p fa fb fc) :=
  PT.imp (pt_chain (cmp_any hu o) (cmp_any hu p) ha hb hc hm) fun σ H Q ⟨A0, F, s, r0, h⟩ => by
    have q := chn_out r0 h
    obtain ⟨A0', F', s', r', q⟩ := q
    refine ⟨A0', F', s', r', q.mono fun ra A1 s1 H1 e1 k1 r1 h1 v rv => ?_⟩
    obtain ⟨A0', F', s', r', q⟩ := h1 v rv
    refine ⟨A0', F', s', r', q.mono fun ra A1 s1 H1 e1 k1 r1 h1 v rv => ?_⟩
    obtain ⟨d, e, B, k, z, h1, h2, h3, c, e4, h5⟩ := h1 v rv
    refine ⟨d, e, B, k, z, h1, h2, h3, c, e4, ?_⟩
    cases c with
    | false => rw [if_neg Bool.false_ne_true] at h5 ⊢; exact ⟨false, rfl, h5⟩
    | true => rw [if_pos rfl] at h5 ⊢; exact h5
theorem se_chn {o p : COp} (hu : X.A.units + 64 < cLine) (ha : SE X W ca a fa) (hb : SE X W ca b fb) (hc : SE X W ca c fc) (hm : lastMarks [cop o, cop p] [b, c] = false) : SE X W ca (.Compare a [cop o, cop p] [b, c] pos) (toV (eChnB o p fa fb fc)) :=
  PE.imp (pe_chain (cmp_any hu o) (cmp_any hu p) ha hb hc hm) fun σ H Q ⟨A0, F, s, r0, h⟩ => by
    have q := chn_out (k := fun b H' => Q (.bl b) H') r0 (toV_out h)
    obtain ⟨A0', F', s', r', q⟩ := q
    refine ⟨A0', F', s', r', q.mono fun ra A1 s1 H1 e1 k1 r1 h1 v rv => ?_⟩
    obtain ⟨A0', F', s', r', q⟩ := h1 v rv
    refine ⟨A0', F', s', r', q.mono fun ra A1 s1 H1 e1 k1 r1 h1 v rv => ?_⟩
    obtain ⟨d, e, B, k, z, h1, h2, h3, c, e4, h5⟩ := h1 v rv
    refine ⟨d, e, B, k, z, h1, h2, h3, c, e4, ?_⟩
    cases c with
    | false => rw [if_neg Bool.false_ne_true] at h5 ⊢; exact h5
    | true =>
      rw [if_pos rfl] at h5 ⊢
      obtain ⟨A0', F', s', r', q⟩ := h5
      refine ⟨A0', F', s', r', q.mono fun ra A1 s1 H1 e1 k1 r1 h1 v rv => ?_⟩
      obtain ⟨d, e, B, k, z, h1, h2, h3, c2, e4, h5⟩ := h1 v rv
      cases e4
      exact ⟨d, e, B, k, z, h1, h2, h3, h5⟩
/-! truth -/
theorem tst_out {A0 F H : Hp} {s : S} {σ : List (Option V)} {k : Bool → Hp → S → Hp → Prop} {C : V → Hp → Prop} (r0 : R X.K A0 F s σ H) (h : Out X.K W ca A0 F s σ (tst fa s) k)
    (m : ∀ b A1 s1 H1 v, Ext A0 F A1 → R X.K A1 F s1 σ H1 → TruV X.K v H1 b → Out X.K W ca A1 F s1 σ (.ok b s1) k → C v H1) : tE X.K W ca fa σ H C := by
  refine ⟨A0, F, s, r0, h.bind.mono fun ra A1 s1 H1 e1 k1 r1 h1 v rv => ?_⟩
  obtain ⟨b, hr, h3⟩ := h1.ofO
  obtain ⟨d, hd, hr⟩ := Option.bind_eq_some_iff.mp hr
  exact m b A1 s1 H1 v e1 r1 ((r1.cnt hd rv).tru r1.zh hr) h3
theorem st_truth (ha : SE X W ca a fa) (he : ∀ whole, isTrue a X.env whole = (do let v ← whole; standAt a.pos; holding [v] (truthy v))) : ST X W ca a (tst fa) :=
  PT.imp (pt_truth ha he) fun σ H Q ⟨A0, F, s, r0, h⟩ => tst_out r0 h fun b A1 s1 H1 v _ r1 t h3 => ⟨b, t, h3.now r1⟩
theorem se_not (ha : SE X W ca a fa) : SE X W ca (.UnaryOp .Not a pos) (eNot fa) :=
  PE.imp (pe_notT ha) fun σ H Q ⟨A0, F, s, r0, h⟩ => tst_out r0 h.bind fun b A1 s1 H1 v _ r1 t h3 => ⟨b, t, (h3.now r1).now r1 _ (.bl _)⟩
theorem st_not (ha : ST X W ca a (tst fa)) : ST X W ca (.UnaryOp .Not a pos) (tst (eNot fa)) :=
  PT.imp (pt_not ha) fun σ H Q ⟨A0, F, s, r0, h⟩ => ⟨A0, F, s, r0, h.bind.bind.mono fun b A1 s1 H1 e1 k1 r1 h1 => by
    obtain ⟨x, hx, h2⟩ := (h1.now r1).ofO
    cases hx
    exact h2.now r1⟩
theorem and_out {A0 F H : Hp} {s : S} {σ : List (Option V)} {Q : VK} (r0 : R X.K A0 F s σ H) (h : Out X.K W ca A0 F s σ (eAnd fa fb s) fun r A1 s' H' => ∀ v, RV X.K A1 F s' σ H' v r → Q v H') : tAndT X.K (tE X.K W ca fa) (tE X.K W ca fb) σ H Q := by
  refine ⟨A0, F, s, r0, h.bind.mono fun ra A1 s1 H1 e1 k1 r1 h1 v rv => ?_⟩
  obtain ⟨b, hr, h3⟩ := h1.bind.ofO
  obtain ⟨d, hd, hr⟩ := Option.bind_eq_some_iff.mp hr
  refine ⟨b, (r1.cnt hd rv).tru r1.zh hr, ?_⟩
  have h4 := h3.now r1
  cases b with
  | true => rw [if_pos rfl] at h4 ⊢; exact ⟨A1, F, s1, r1, h4⟩
  | false =>
    rw [if_neg Bool.false_ne_true] at h4 ⊢
    obtain ⟨A1', e1', r1', rv'⟩ := rv.opd r1
    exact h4 A1' H1 e1' .refl r1' v rv'
theorem or_out {A0 F H : Hp} {s : S} {σ : List (Option V)} {Q : VK} (r0 : R X.K A0 F s σ H) (h : Out X.K W ca A0 F s σ (eOr fa fb s) fun r A1 s' H' => ∀ v, RV X.K A1 F s' σ H' v r → Q v H') : tOrT X.K (tE X.K W ca fa) (tE X.K W ca fb) σ H Q := by
  refine ⟨A0, F, s, r0, h.bind.mono fun ra A1 s1 H1 e1 k1 r1 h1 v rv => ?_⟩
  obtain ⟨b, hr, h3⟩ := h1.bind.ofO
  obtain ⟨d, hd, hr⟩ := Option.bind_eq_some_iff.mp hr
  refine ⟨b, (r1.cnt hd rv).tru r1.zh hr, ?_⟩
  have h4 := h3.now r1
  cases b with
  | false => rw [if_neg Bool.false_ne_true] at h4 ⊢; exact ⟨A1, F, s1, r1, h4⟩
  | true =>
    rw [if_pos rfl] at h4 ⊢
    obtain ⟨A1', e1', r1', rv'⟩ := rv.opd r1
    exact h4 A1' H1 e1' .refl r1' v rv'
theorem se_and {rest : List Expr} (ha : SE X W ca a fa) (hb : SE X W ca (.BoolOp .And (b :: rest) pos) fb) : SE X W ca (.BoolOp .And (a :: b :: rest) pos) (eAnd fa fb) := PE.imp (pe_andT ha hb) fun σ H Q ⟨A0, F, s, r0, h⟩ => and_out r0 h
theorem se_or {rest : List Expr} (ha : SE X W ca a fa) (hb : SE X W ca (.BoolOp .Or (b :: rest) pos) fb) : SE X W ca (.BoolOp .Or (a :: b :: rest) pos) (eOr fa fb) := PE.imp (pe_orT ha hb) fun σ H Q ⟨A0, F, s, r0, h⟩ => or_out r0 h
/-- a test whatever its whole is -/
abbrev SW (X : Cx) (W : WX) (ca : Nat → Value) (e : Expr) (f : S → Ro Bool) : Prop := PW X e (tT X.K W ca f)
theorem PW.imp {X : Cx} {e : Expr} {t t' : TT} (h : PW X e t) (m : ∀ σ H Q, t' σ H Q → t σ H Q) : PW X e t' := ⟨fun wh pins s σ H Q I q => h.run wh pins s σ H Q I (m σ H Q q)⟩
theorem tst_and (s : S) : tst (eAnd fa fb) s = (tst fa s).bind fun b s1 => if b then tst fb s1 else .ok false s1 := by
  unfold tst eAnd
  cases q : fa s with
  | bad => rfl
  | ex c s1 => rfl
  | ok ra s1 =>
    show (Ro.bind (Ro.bind (ofO ((cnt s1 ra).bind D.tr) s1) _) _) = Ro.bind (ofO ((cnt s1 ra).bind D.tr) s1) _
    cases hb : (cnt s1 ra).bind D.tr with
    | none => rfl
    | some b =>
      cases b with
      | true => rfl
      | false =>
        show ofO ((cnt s1 (opd ra)).bind D.tr) s1 = .ok false s1
        rw [cnt_opd, hb]; rfl
theorem tst_or (s : S) : tst (eOr fa fb) s = (tst fa s).bind fun b s1 => if b then .ok true s1 else tst fb s1 := by
  unfold tst eOr
  cases q : fa s with
  | bad => rfl
  | ex c s1 => rfl
  | ok ra s1 =>
    show (Ro.bind (Ro.bind (ofO ((cnt s1 ra).bind D.tr) s1) _) _) = Ro.bind (ofO ((cnt s1 ra).bind D.tr) s1) _
    cases hb : (cnt s1 ra).bind D.tr with
    | none => rfl
    | some b =>
      cases b with
      | false => rfl
      | true =>
        show ofO ((cnt s1 (opd ra)).bind D.tr) s1 = .ok true s1
        rw [cnt_opd, hb]; rfl
theorem sw_and {rest : List Expr} (ha : ST X W ca a (tst fa)) (hb : SW X W ca (.BoolOp .And (b :: rest) pos) (tst fb)) : SW X W ca (.BoolOp .And (a :: b :: rest) pos) (tst (eAnd fa fb)) :=
  PW.imp (pw_and ha hb) fun σ H Q ⟨A0, F, s, r0, h⟩ => by
    rw [tst_and] at h
    refine ⟨A0, F, s, r0, h.bind.mono fun b A1 s1 H1 e1 k1 r1 h1 => ?_⟩
    cases b with
    | true => rw [if_pos rfl] at h1 ⊢; exact ⟨A1, F, s1, r1, h1⟩
    | false => rw [if_neg Bool.false_ne_true] at h1 ⊢; exact h1.now r1
theorem sw_or {rest : List Expr} (ha : ST X W ca a (tst fa)) (hb : SW X W ca (.BoolOp .Or (b :: rest) pos) (tst fb)) : SW X W ca (.BoolOp .Or (a :: b :: rest) pos) (tst (eOr fa fb)) :=
  PW.imp (pw_or ha hb) fun σ H Q ⟨A0, F, s, r0, h⟩ => by
    rw [tst_or] at h
    refine ⟨A0, F, s, r0, h.bind.mono fun b A1 s1 H1 e1 k1 r1 h1 => ?_⟩
    cases b with
    | false => rw [if_neg Bool.false_ne_true] at h1 ⊢; exact ⟨A1, F, s1, r1, h1⟩
    | true => rw [if_pos rfl] at h1 ⊢; exact h1.now r1
theorem sw_and1 (ha : ST X W ca a (tst fa)) : SW X W ca (.BoolOp .And [a] pos) (tst fa) := pw_and1 ha
theorem sw_or1 (ha : ST X W ca a (tst fa)) : SW X W ca (.BoolOp .Or [a] pos) (tst fa) := pw_or1 ha
theorem se_one {o : BoolOp} (ha : SE X W ca a fa) : SE X W ca (.BoolOp o [a] pos) fa := pe_one ha
theorem tst_toV (f : S → Ro Bool) (s : S) : tst (toV f) s = f s := by
  unfold tst toV
  cases f s with
  | bad => rfl
  | ex => rfl
  | ok b s1 => cases b <;> rfl
theorem st_toV {e : Expr} {f : S → Ro Bool} (h : ST X W ca e f) : ST X W ca e (tst (toV f)) := by
  have e : tst (toV f) = f := funext (tst_toV f)
  rw [e]; exact h
/-! small ones -/
theorem se_neg (ha : SE X W ca a fa) : SE X W ca (.UnaryOp .USub a pos) (eNeg fa) :=
  PE.imp (pe_un un_neg ha) fun σ H Q ⟨A0, F, s, r0, h⟩ => ⟨A0, F, s, r0, h.bind.mono fun ra A1 s1 H1 e1 k1 r1 h1 v rv => by
    split at h1
    · rename_i i
      cases rv
      exact ⟨i, rfl, h1.now r1 _ (.int _)⟩
    · exact h1.elim⟩
def D.isNon : D → Bool
  | .non => true
  | _ => false
theorem none_of {K : PySem.W.Frag} {A0 H : Hp} {d : D} {v : V} (h : Rd K A0 H d v) : decide (v = .non) = d.isNon := by
  cases d with
  | non => rw [h.non]; rfl
  | bl b => rw [h.bl]; rfl
  | int i => rw [h.int]; rfl
  | str s => rw [h.str.1]; rfl
  | tup ds =>
    rcases h with h | ⟨_, _, _, _, e, _⟩
    · cases h; rfl
    · cases e
  | lst ds =>
    rcases h with h | ⟨_, _, _, rfl, e, _⟩
    · cases h; rfl
    · rfl
  | scr ds =>
    rcases h with h | ⟨_, _, _, _, e, _⟩
    · cases h; rfl
    · cases e
theorem isN_out {A0 F H : Hp} {s : S} {σ : List (Option V)} {Q : VK} {b : Bool} (r0 : R X.K A0 F s σ H) (h : Out X.K W ca A0 F s σ (eIsN b fa s) fun r A1 s' H' => ∀ v, RV X.K A1 F s' σ H' v r → Q v H') :
    tE X.K W ca fa σ H fun v H1 => Q (.bl (if decide (v = .non) = true then b else !b)) H1 := by
  refine ⟨A0, F, s, r0, h.bind.mono fun ra A1 s1 H1 e1 k1 r1 h1 v rv => ?_⟩
  obtain ⟨d, hd, h3⟩ := h1.bind.ofO
  rw [none_of (r1.cnt hd rv)]
  have h4 := h3.now r1
  cases d with
  | non => exact h4.now r1 _ (.bl _)
  | _ => exact h4.now r1 _ (.bl _)
theorem se_isN {j : Nat} {p : Pos} (ha : SE X W ca a fa) : SE X W ca (.Compare a [.Is] [.Constant .none j p] pos) (eIsN true fa) :=
  PE.imp (pe_cmpR op_isN ha pe_non (nomark _)) fun σ H Q ⟨A0, F, s, r0, h⟩ => by
    obtain ⟨A0', F', s', r', q⟩ := isN_out r0 h
    refine ⟨A0', F', s', r', q.mono fun ra A1 s1 H1 e1 k1 r1 h1 v rv => ⟨rfl, ?_⟩⟩
    have := h1 v rv
    dsimp only at this
    cases hd : decide (v = .non) <;> rw [hd] at this <;> exact this
theorem se_notN {j : Nat} {p : Pos} (ha : SE X W ca a fa) : SE X W ca (.Compare a [.IsNot] [.Constant .none j p] pos) (eIsN false fa) :=
  PE.imp (pe_cmpR op_notN ha pe_non (nomark _)) fun σ H Q ⟨A0, F, s, r0, h⟩ => by
    obtain ⟨A0', F', s', r', q⟩ := isN_out r0 h
    refine ⟨A0', F', s', r', q.mono fun ra A1 s1 H1 e1 k1 r1 h1 v rv => ⟨rfl, ?_⟩⟩
    have := h1 v rv
    dsimp only at this
    cases hd : decide (v = .non) <;> rw [hd] at this <;> exact this
/-- an expression that gives a truth, as a test by a comparison's own road -/
theorem isNb_out {A0 F H : Hp} {s : S} {σ : List (Option V)} {k : Bool → Hp → Prop} {b : Bool} (r0 : R X.K A0 F s σ H) (h : Out X.K W ca A0 F s σ (tst (eIsN b fa) s) fun c _ _ H' => k c H') :
    tE X.K W ca fa σ H fun v H1 => k (if decide (v = .non) = true then b else !b) H1 := by
  have h0 := h.bind
  have h1 : Out X.K W ca A0 F s σ (eIsN b fa s) fun r A1 s' H' => ∀ v, RV X.K A1 F s' σ H' v r → ∃ c, v = .bl c ∧ k c H' := by
    unfold eIsN
    unfold eIsN at h0
    cases q : fa s with
    | bad => rw [q] at h0; exact h0
    | ex c s1 => rw [q] at h0; exact h0
    | ok ra s1 =>
      rw [q] at h0
      show Out X.K W ca A0 F s σ ((ofO (cnt s1 ra) s1).bind _) _
      replace h0 : Out X.K W ca A0 F s σ ((ofO (cnt s1 ra) s1).bind _) _ := h0
      cases hc : cnt s1 ra with
      | none => rw [hc] at h0; exact h0
      | some d =>
        rw [hc] at h0
        cases d with
        | non =>
          intro A1 H1 e1 k1 r1 v rv
          cases rv
          obtain ⟨x, hx, h2⟩ := (h0 A1 H1 e1 k1 r1).ofO
          cases hx
          exact ⟨_, rfl, h2.now r1⟩
        | _ =>
          intro A1 H1 e1 k1 r1 v rv
          cases rv
          obtain ⟨x, hx, h2⟩ := (h0 A1 H1 e1 k1 r1).ofO
          cases hx
          exact ⟨_, rfl, h2.now r1⟩
  obtain ⟨A0', F', s', r', q⟩ := isN_out (Q := fun v H' => ∃ c, v = .bl c ∧ k c H') r0 h1
  refine ⟨A0', F', s', r', q.mono fun ra A1 s1 H1 e1 k1 r1 h1 v rv => ?_⟩
  obtain ⟨c, hc, hk⟩ := h1 v rv
  cases hc
  exact hk
theorem st_isN {j : Nat} {p : Pos} (ha : SE X W ca a fa) : ST X W ca (.Compare a [.Is] [.Constant .none j p] pos) (tst (eIsN true fa)) :=
  PT.imp (pt_cmpR op_isN ha pe_non (nomark _)) fun σ H Q ⟨A0, F, s, r0, h⟩ => by
    obtain ⟨A0', F', s', r', q⟩ := isNb_out r0 h
    refine ⟨A0', F', s', r', q.mono fun ra A1 s1 H1 e1 k1 r1 h1 v rv => ⟨rfl, _, rfl, ?_⟩⟩
    have := h1 v rv
    dsimp only at this
    cases hd : decide (v = .non) <;> rw [hd] at this <;> exact this
theorem st_notN {j : Nat} {p : Pos} (ha : SE X W ca a fa) : ST X W ca (.Compare a [.IsNot] [.Constant .none j p] pos) (tst (eIsN false fa)) :=
  PT.imp (pt_cmpR op_notN ha pe_non (nomark _)) fun σ H Q ⟨A0, F, s, r0, h⟩ => by
    obtain ⟨A0', F', s', r', q⟩ := isNb_out r0 h
    refine ⟨A0', F', s', r', q.mono fun ra A1 s1 H1 e1 k1 r1 h1 v rv => ⟨rfl, _, rfl, ?_⟩⟩
    have := h1 v rv
    dsimp only at this
    cases hd : decide (v = .non) <;> rw [hd] at this <;> exact this
theorem se_ife (hc : ST X W ca c (tst fc)) (ha : SE X W ca a fa) (hb : SE X W ca b fb) : SE X W ca (.IfExp c a b pos) (eIfe fc fa fb) :=
  PE.imp (pe_ifExp hc ha hb) fun σ H Q ⟨A0, F, s, r0, h⟩ => ⟨A0, F, s, r0, h.bind.mono fun k A1 s1 H1 e1 k1 r1 h1 => by
    cases k with
    | true => rw [if_pos rfl] at h1 ⊢; exact ⟨A1, F, s1, r1, h1⟩
    | false => rw [if_neg Bool.false_ne_true] at h1 ⊢; exact ⟨A1, F, s1, r1, h1⟩⟩
/-! lists of expressions -/
abbrev SA (X : Cx) (W : WX) (ca : Nat → Value) (es : List Expr) (f : S → Ro (List Rv)) : Prop := PA X es (tA X.K W ca f)
abbrev SF (X : Cx) (W : WX) (ca : Nat → Value) (es : List Expr) (f : S → Ro (List D)) : Prop := PA X es (tAF X.K W ca f)
theorem sa_nil : SA X W ca [] (fun s => .ok [] s) := PA.imp pa_nil fun σ H Q ⟨A0, F, s, r0, h⟩ => h.now r0 [] .nil
theorem sa_cons {e : Expr} {es : List Expr} {f : S → Ro Rv} {g : S → Ro (List Rv)} (he : SE X W ca e f) (hr : SA X W ca es g) (hs : starEach (e :: es) X.env = (false, eval e X.env) :: starEach es X.env) :
    SA X W ca (e :: es) (fun s => (f s).bind fun x s1 => (g s1).bind fun xs s2 => .ok (opd x :: xs) s2) :=
  PA.imp (pa_cons he hr hs) fun σ H Q ⟨A0, F, s, r0, h⟩ => ⟨A0, F, s, r0, h.bind.mono fun x A1 s1 H1 e1 k1 r1 h1 v rv => by
    obtain ⟨A1', e1', r1', rv'⟩ := rv.opd r1
    refine ⟨A1', F, s1, r1', (h1.ext e1').bind.mono fun xs A2 s2 H2 e2 k2 r2 h2 vs rvs => ?_⟩
    refine h2.now r2 (v :: vs) ?_
    cases x with
    | v d => exact .v (Rep.mono e2.same rv') rvs
    | b i => exact .b rv' rvs
    | o ds => exact .v (Rep.mono e2.same rv') rvs⟩
theorem sf_nil : SF X W ca [] (fun s => .ok [] s) := PA.imp pa_nil fun σ H Q ⟨A0, F, s, r0, h⟩ => h.now r0 [] .nil
theorem sf_cons {e : Expr} {es : List Expr} {f : S → Ro Rv} {g : S → Ro (List D)} (he : SE X W ca e f) (hr : SF X W ca es g) (hs : starEach (e :: es) X.env = (false, eval e X.env) :: starEach es X.env) :
    SF X W ca (e :: es) (fun s => ((f s).bind frz).bind fun x s1 => (g s1).bind fun xs s2 => .ok (x :: xs) s2) :=
  PA.imp (pa_cons he hr hs) fun σ H Q ⟨A0, F, s, r0, h⟩ => tE_frz ⟨A0, F, s, r0, h.bind.mono fun x A1 s1 H1 e1 k1 r1 h1 v rv =>
    ⟨A1, F, s1, r1, h1.bind.mono fun xs A2 s2 H2 e2 k2 r2 h2 vs rvs => h2.now r2 (v :: vs) (.cons (rv.mono e2.same) rvs)⟩⟩
theorem se_tup {es : List Expr} {g : S → Ro (List D)} {x1 : Nat} (h : SF X W ca es g) : SE X W ca (.Tuple es x1 pos) (eTup g) :=
  PE.imp (pe_tup h) fun σ H Q ⟨A0, F, s, r0, h⟩ => ⟨A0, F, s, r0, h.bind.mono fun ds A1 s1 H1 e1 k1 r1 h1 vs rvs => by
    split at h1
    · rename_i hz
      refine ⟨by rw [← rvs.length]; exact szl hz, fun p hp => ?_⟩
      obtain ⟨z, f, _⟩ := r1.none_of hp
      exact h1 _ _ (.fix z f) .refl (r1.grow hp) _ (.tup (.inl (.inl upd_same)) (rvs.mono (same_upd z)))
    · exact h1.elim⟩
theorem se_lst {es : List Expr} {g : S → Ro (List D)} (h : SF X W ca es g) : SE X W ca (.List es pos) (eLst g) :=
  PE.imp (pe_lst h) fun σ H Q ⟨A0, F, s, r0, h⟩ => ⟨A0, F, s, r0, h.bind.mono fun ds A1 s1 H1 e1 k1 r1 h1 vs rvs => by
    split at h1
    · rename_i hz
      refine ⟨by rw [← rvs.length]; exact szl hz, fun p hp => ?_⟩
      obtain ⟨z, f, o⟩ := r1.none_of hp
      exact h1 _ _ .refl .refl (r1.growH hp) _ ⟨p, vs, rfl, upd_same, rvs, z, f, o⟩
    · exact h1.elim⟩
/-! cuts -/
abbrev SO (X : Cx) (W : WX) (ca : Nat → Value) (e : Option Expr) (f : S → Ro (Option Int)) : Prop := PO X e (tO X.K W ca f)
theorem so_no : SO X W ca none (fun s => .ok none s) := PO.imp po_none fun σ H Q ⟨A0, F, s, r0, h⟩ => h.now r0
theorem so_so (ha : SE X W ca a fa) : SO X W ca (some a) (eSo fa) := PO.imp (po_some ha) fun σ H Q ⟨A0, F, s, r0, h⟩ => ⟨A0, F, s, r0, h.bind.mono fun ra A1 s1 H1 e1 k1 r1 h1 v rv => by
    split at h1
    · cases rv
      exact ⟨_, rfl, h1.now r1⟩
    · exact h1.elim⟩
theorem se_slc {lo hi : Option Expr} {fl fh : S → Ro (Option Int)} {p2 : Pos} (ha : SE X W ca a fa) (hl : SO X W ca lo fl) (hh : SO X W ca hi fh) : SE X W ca (.Subscript a (.Slice lo hi none p2) pos) (eSlc fa fl fh) :=
  PE.imp (pe_slice sl_any ha hl hh) fun σ H Q ⟨A0, F, s, r0, h⟩ => by
    refine ⟨A0, F, s, r0, h.bind.mono fun ra A1 s1 H1 e1 k1 r1 h1 v rv => ?_⟩
    obtain ⟨A1', e1', r1', rv'⟩ := rv.opd r1
    refine ⟨A1', F, s1, r1', (h1.ext e1').bind.mono fun lo A2 s2 H2 e2 k2 r2 h2 => ?_⟩
    refine ⟨A2, F, s2, r2, h2.bind.mono fun hi A3 s3 H3 e3 k3 r3 h3 => ?_⟩
    obtain ⟨r, hr, h4⟩ := h3.ofO
    obtain ⟨d, hd, hr⟩ := Option.bind_eq_some_iff.mp hr
    rw [← cnt_opd] at hd
    exact ⟨d, A3, r, r3.zh, r3.cnt hd (RV.keep rv' opd_no (e2.trans e3).same), hr, New.of r3 h4 (slcR_nb hr)⟩
/-! built-ins -/
theorem RVs.rds {K : PySem.W.Frag} {A0 F H : Hp} {s : S} {σ : List (Option V)} (r0 : R K A0 F s σ H) : ∀ {rs : List Rv} {vs : List V} {ds : List D}, RVs K A0 σ rs vs → cnts s rs = some ds → Rds K A0 H ds vs
  | _, _, _, .nil, e => by cases e; exact .nil
  | _, _, _, .v h t, e => by
    obtain ⟨d, h1, h2⟩ := Option.bind_eq_some_iff.mp e
    obtain ⟨ds, h3, h4⟩ := Option.map_eq_some_iff.mp h2
    subst h4
    exact .cons (r0.cnt (F := F) (rv := .v _) h1 h) (RVs.rds r0 t h3)
  | _, _, _, .b h t, e => by
    obtain ⟨d, h1, h2⟩ := Option.bind_eq_some_iff.mp e
    obtain ⟨ds, h3, h4⟩ := Option.map_eq_some_iff.mp h2
    subst h4
    exact .cons (r0.cnt (F := F) (rv := .b _) h1 h) (RVs.rds r0 t h3)
theorem blt_out {f : Blt} {g : S → Ro (List Rv)} {A0 F H : Hp} {s : S} {σ : List (Option V)} {Q : VK} (r0 : R X.K A0 F s σ H) (h : Out X.K W ca A0 F s σ (eBlt f g s) fun r A1 s' H' => ∀ v, RV X.K A1 F s' σ H' v r → Q v H') :
    tA X.K W ca g σ H fun vs H1 => rBlt X.K f vs H1 Q := ⟨A0, F, s, r0, h.bind.mono fun rs A1 s1 H1 e1 k1 r1 h1 vs rvs => by
    obtain ⟨r, hr, h4⟩ := h1.ofO
    obtain ⟨ds, hd, hr⟩ := Option.bind_eq_some_iff.mp hr
    exact ⟨ds, A1, r, r1.zh, rvs.rds r1 hd, hr, New.of r1 h4 (bltR_nb hr)⟩⟩
end
end Z

/-! Z: calls of defs, methods of built-ins. -/
namespace Z
open PySem PySem.Spec PyProof.Rows L2

/-! ### what is handed, what comes back -/
/-- how an operand is handed -/
def Hd (s : S) (r : Rv) (x : Slot) : Prop := (∃ d, r = .v d ∧ x = .sh d) ∨ ∃ i, r = .b i ∧ ((∃ d, s.e[i]? = some (.sh d) ∧ x = .sh d) ∨ (∃ d, s.e[i]? = some (.lf d) ∧ x = .sh d) ∨
  (∃ ds, s.e[i]? = some (.ow ds) ∧ x = .le ds) ∨ (∃ ds, s.e[i]? = some (.le ds) ∧ x = .le ds) ∨ ∃ l ds, s.e[i]? = some (.lk l ds) ∧ x = .lk true ds)
theorem hand_len {s : S} : ∀ {rs : List Rv} {sl : List Slot}, hand s rs = some sl → sl.length = rs.length ∧ ∀ (j : Nat) (r : Rv), rs[j]? = some r → ∃ x, sl[j]? = some x ∧ Hd s r x := by
  intro rs
  induction rs with
  | nil => intro sl h; cases h; exact ⟨rfl, fun j r h => by simp at h⟩
  | cons r rs ih =>
    have step : ∀ {x : Slot} {sl : List Slot}, Hd s r x → (hand s rs).map (x :: ·) = some sl → sl.length = (r :: rs).length ∧ ∀ (j : Nat) (q : Rv), (r :: rs)[j]? = some q → ∃ x, sl[j]? = some x ∧ Hd s q x := by
      intro x sl hx h
      obtain ⟨tl, h1, h2⟩ := Option.map_eq_some_iff.mp h
      subst h2
      obtain ⟨q1, q2⟩ := ih h1
      refine ⟨by simp [q1], fun j q hj => ?_⟩
      cases j with
      | zero => simp at hj; subst hj; exact ⟨x, rfl, hx⟩
      | succ j => exact q2 j q (by simpa using hj)
    intro sl h
    cases r with
    | v d => exact step (x := .sh d) (.inl ⟨d, rfl, rfl⟩) h
    | o ds => cases h
    | b i =>
      simp only [hand] at h
      split at h
      · exact step (.inr ⟨i, rfl, .inl ⟨_, by assumption, rfl⟩⟩) h
      · exact step (.inr ⟨i, rfl, .inr (.inl ⟨_, by assumption, rfl⟩)⟩) h
      · exact step (.inr ⟨i, rfl, .inr (.inr (.inl ⟨_, by assumption, rfl⟩))⟩) h
      · exact step (.inr ⟨i, rfl, .inr (.inr (.inr (.inl ⟨_, by assumption, rfl⟩)))⟩) h
      · exact step (.inr ⟨i, rfl, .inr (.inr (.inr (.inr ⟨_, _, by assumption, rfl⟩)))⟩) h
      · cases h
theorem lent_cons_b {s : S} {i : Nat} {rs : List Rv} {x : Slot} (h : s.e[i]? = some x) (p : isOw x = true) : lent s (.b i :: rs) = i :: lent s rs := by
  simp only [lent]
  cases x with
  | ow ds => rw [h]
  | le ds => rw [h]
  | lk l ds => rw [h]
  | no => cases p
  | sh d => cases p
  | lf d => cases p
theorem lent_cons_n {s : S} {i : Nat} {rs : List Rv} (h : ∀ x, s.e[i]? = some x → isOw x = false) : lent s (.b i :: rs) = lent s rs := by
  simp only [lent]
  split
  · have := h _ (by assumption); cases this
  · have := h _ (by assumption); cases this
  · have := h _ (by assumption); cases this
  · rfl
theorem mem_lent {s : S} {i : Nat} : ∀ {rs : List Rv}, i ∈ lent s rs ↔ ∃ (j : Nat) (x : Slot), rs[j]? = some (.b i) ∧ s.e[i]? = some x ∧ isOw x = true := by
  intro rs
  induction rs with
  | nil => simp [lent]
  | cons r rs ih =>
    cases r with
    | v d =>
      rw [show lent s (.v d :: rs) = lent s rs from rfl, ih]
      constructor
      · rintro ⟨j, x, h⟩; exact ⟨j + 1, x, by simpa using h⟩
      · rintro ⟨j, x, h, h2⟩
        cases j with
        | zero => simp at h
        | succ j => exact ⟨j, x, by simpa using h, h2⟩
    | o d =>
      rw [show lent s (.o d :: rs) = lent s rs from rfl, ih]
      constructor
      · rintro ⟨j, x, h⟩; exact ⟨j + 1, x, by simpa using h⟩
      · rintro ⟨j, x, h, h2⟩
        cases j with
        | zero => simp at h
        | succ j => exact ⟨j, x, by simpa using h, h2⟩
    | b k =>
      by_cases hk : ∃ x, s.e[k]? = some x ∧ isOw x = true
      · obtain ⟨x, h1, h2⟩ := hk
        rw [lent_cons_b h1 h2, List.mem_cons, ih]
        constructor
        · rintro (rfl | ⟨j, y, h⟩)
          · exact ⟨0, x, rfl, h1, h2⟩
          · exact ⟨j + 1, y, by simpa using h⟩
        · rintro ⟨j, y, h, h3⟩
          cases j with
          | zero => simp at h; exact .inl h.symm
          | succ j => exact .inr ⟨j, y, by simpa using h, h3⟩
      · rw [lent_cons_n (fun x h => by cases q : isOw x with | false => rfl | true => exact absurd ⟨x, h, q⟩ hk), ih]
        constructor
        · rintro ⟨j, x, h⟩; exact ⟨j + 1, x, by simpa using h⟩
        · rintro ⟨j, x, h, h2, h3⟩
          cases j with
          | zero => simp at h; subst h; exact absurd ⟨x, h2, h3⟩ hk
          | succ j => exact ⟨j, x, by simpa using h, h2, h3⟩
theorem dist_cons {x : Nat} {xs : List Nat} (h : dist (x :: xs) = true) : x ∉ xs ∧ dist xs = true := by
  have h' := h
  simp [dist] at h'
  exact ⟨h'.1, h'.2⟩
theorem lent_inj {s : S} {i : Nat} {x : Slot} (hx : s.e[i]? = some x) (p : isOw x = true) : ∀ {rs : List Rv} {j k : Nat}, dist (lent s rs) = true → rs[j]? = some (.b i) → rs[k]? = some (.b i) → j = k := by
  intro rs
  induction rs with
  | nil => intro j k _ h; simp at h
  | cons r rs ih =>
    intro j k d hj hk
    have tl : dist (lent s rs) = true := by
      cases r with
      | v _ => exact d
      | o _ => exact d
      | b m =>
        by_cases hm : ∃ x, s.e[m]? = some x ∧ isOw x = true
        · obtain ⟨y, h1, h2⟩ := hm
          rw [lent_cons_b h1 h2] at d
          exact (dist_cons d).2
        · rw [lent_cons_n (fun x h => by cases q : isOw x with | false => rfl | true => exact absurd ⟨x, h, q⟩ hm)] at d
          exact d
    cases j with
    | zero =>
      cases k with
      | zero => rfl
      | succ k =>
        simp at hj hk
        subst hj
        rw [lent_cons_b hx p] at d
        exact absurd (mem_lent.mpr ⟨k, x, hk, hx, p⟩) (dist_cons d).1
    | succ j =>
      cases k with
      | zero =>
        simp at hj hk
        subst hk
        rw [lent_cons_b hx p] at d
        exact absurd (mem_lent.mpr ⟨j, x, hj, hx, p⟩) (dist_cons d).1
      | succ k => exact congrArg (· + 1) (ih (j := j) (k := k) tl (by simpa using hj) (by simpa using hk))
/-- what a lent slot becomes -/
def Upg : Slot → Slot → Slot → Prop
  | .ow _, .le ds, y => y = .ow ds
  | .ow _, .lf d, y => y = .sh d
  | .ow _, .lk _ ds, y => y = .ow ds
  | .le _, .le ds, y => y = .le ds
  | .le _, .lf d, y => y = .lf d
  | .le _, .lk _ ds, y => y = .le ds
  | .lk l ds, _, y => y = .lk l ds
  | _, _, _ => False
theorem back_is : ∀ {rs : List Rv} {cs : List Slot} {s s2 : S}, back rs cs s = some s2 → dist (lent s rs) = true → s2.e.length = s.e.length ∧ ∀ i : Nat, (i ∉ lent s rs → s2.e[i]? = s.e[i]?) ∧
    ∀ (j : Nat) (x : Slot), rs[j]? = some (.b i) → s.e[i]? = some x → isOw x = true → ∃ c y, cs[j]? = some c ∧ s2.e[i]? = some y ∧ Upg x c y := by
  intro rs
  induction rs with
  | nil => intro cs s s2 h _; cases h; exact ⟨rfl, fun i => ⟨fun _ => rfl, fun j x h => by simp at h⟩⟩
  | cons r rs ih =>
    intro cs s s2 h d
    -- the head changes nothing
    have skip : ∀ {c : Slot} {cs' : List Slot}, back rs cs' s = some s2 → lent s (r :: rs) = lent s rs → cs = c :: cs' → (∀ i x, r = .b i → s.e[i]? = some x → isOw x = false) →
        s2.e.length = s.e.length ∧ ∀ i : Nat, (i ∉ lent s (r :: rs) → s2.e[i]? = s.e[i]?) ∧
          ∀ (j : Nat) (x : Slot), (r :: rs)[j]? = some (.b i) → s.e[i]? = some x → isOw x = true → ∃ c y, cs[j]? = some c ∧ s2.e[i]? = some y ∧ Upg x c y := by
      intro c cs' hb hl hc hr
      subst hc
      rw [hl] at d ⊢
      obtain ⟨q1, q2⟩ := ih hb d
      refine ⟨q1, fun i => ⟨(q2 i).1, fun j x hj hx px => ?_⟩⟩
      cases j with
      | zero => simp at hj; have q9 := hr i x hj hx; rw [q9] at px; cases px
      | succ j =>
        obtain ⟨c', y, h1, h2⟩ := (q2 i).2 j x (by simpa using hj) hx px
        exact ⟨c', y, by simpa using h1, h2⟩
    cases r with
    | v dd =>
      cases cs with
      | nil => cases h
      | cons c cs => exact skip (c := c) h rfl rfl (fun i x e => by cases e)
    | o dd =>
      cases cs with
      | nil => cases h
      | cons c cs => exact skip (c := c) h rfl rfl (fun i x e => by cases e)
    | b k =>
      cases cs with
      | nil => simp [back] at h
      | cons c cs =>
        -- a lent slot: stays (lk) or is set
        have set_ : ∀ {x y : Slot}, s.e[k]? = some x → isOw x = true → Upg x c y → back rs cs ⟨s.e.set k y⟩ = some s2 →
            s2.e.length = s.e.length ∧ ∀ i : Nat, (i ∉ lent s (.b k :: rs) → s2.e[i]? = s.e[i]?) ∧
              ∀ (j : Nat) (x : Slot), (Rv.b k :: rs)[j]? = some (.b i) → s.e[i]? = some x → isOw x = true → ∃ c' y, (c :: cs)[j]? = some c' ∧ s2.e[i]? = some y ∧ Upg x c' y := by
          intro x y hx px hu hb
          rw [lent_cons_b hx px] at d ⊢
          obtain ⟨nk, d'⟩ := dist_cons d
          have nob : ∀ j : Nat, rs[j]? ≠ some (Rv.b k) := fun j hj => nk (mem_lent.mpr ⟨j, x, hj, hx, px⟩)
          have el : ∀ (l : List Rv), (∀ j : Nat, l[j]? ≠ some (Rv.b k)) → lent ⟨s.e.set k y⟩ l = lent s l := by
            intro l
            induction l with
            | nil => intro _; rfl
            | cons q l il =>
              intro hn
              have il' := il fun j hj => hn (j + 1) (by simpa using hj)
              cases q with
              | v _ => exact il'
              | o _ => exact il'
              | b m =>
                have hm : k ≠ m := fun e => hn 0 (by simp [e])
                simp only [lent]
                rw [List.getElem?_set_ne hm, il']
          have e1 := el rs nob
          obtain ⟨q1, q2⟩ := ih hb (by rw [e1]; exact d')
          rw [e1] at q2
          refine ⟨by rw [q1]; simp, fun i => ⟨fun hi => ?_, fun j x' hj hx' px' => ?_⟩⟩
          · simp only [List.mem_cons, not_or] at hi
            rw [(q2 i).1 hi.2, List.getElem?_set_ne (Ne.symm hi.1)]
          · cases j with
            | zero =>
              simp at hj
              subst hj
              rw [hx] at hx'; cases hx'
              exact ⟨c, y, rfl, by rw [(q2 k).1 nk, List.getElem?_set_self (set_at hx)], hu⟩
            | succ j =>
              have hj' : rs[j]? = some (.b i) := by simpa using hj
              have hik : k ≠ i := fun e => nob j (by rw [e]; exact hj')
              obtain ⟨c', y', h1, h2⟩ := (q2 i).2 j x' hj' (by rw [List.getElem?_set_ne hik]; exact hx') px'
              exact ⟨c', y', by simpa using h1, h2⟩
        simp only [back] at h
        split at h
        · exact set_ (by assumption) rfl (show Upg (.ow _) (.le _) (.ow _) from rfl) h
        · exact set_ (by assumption) rfl (show Upg (.ow _) (.lf _) (.sh _) from rfl) h
        · exact set_ (by assumption) rfl (show Upg (.ow _) (.lk _ _) (.ow _) from rfl) h
        · exact set_ (by assumption) rfl (show Upg (.le _) (.le _) (.le _) from rfl) h
        · exact set_ (by assumption) rfl (show Upg (.le _) (.lf _) (.lf _) from rfl) h
        · exact set_ (by assumption) rfl (show Upg (.le _) (.lk _ _) (.le _) from rfl) h
        · rename_i l ds hx
          refine set_ (x := .lk l ds) (y := .lk l ds) hx rfl rfl ?_
          have e : s.e.set k (.lk l ds) = s.e := by
            refine List.ext_getElem? fun m => ?_
            by_cases em : k = m
            · subst em; rw [List.getElem?_set_self (set_at hx), hx]
            · rw [List.getElem?_set_ne em]
          rw [e]; exact h
        · rename_i hx
          exact skip h (lent_cons_n fun x q => by rw [hx] at q; cases q; rfl) rfl (fun i x e q => by cases e; rw [hx] at q; cases q; rfl)
        · rename_i hx
          exact skip h (lent_cons_n fun x q => by rw [hx] at q; cases q; rfl) rfl (fun i x e q => by cases e; rw [hx] at q; cases q; rfl)
        · cases h

/-! ### a def's promise -/
/-- behind the call only the pinned parameters are told -/
def pins (sl es : List Slot) : List Slot := List.zipWith (fun x c => if isPin x = true then c else .no) sl es
theorem pins_get {sl es : List Slot} {j : Nat} {y : Slot} (h : (pins sl es)[j]? = some y) : ∃ x c, sl[j]? = some x ∧ es[j]? = some c ∧ y = if isPin x = true then c else .no := by
  unfold pins at h
  rw [List.getElem?_zipWith] at h
  cases h1 : sl[j]? with
  | none => rw [h1] at h; simp at h
  | some x =>
    cases h2 : es[j]? with
    | none => rw [h1, h2] at h; simp at h
    | some c => rw [h1, h2] at h; simp at h; exact ⟨x, c, rfl, rfl, h.symm⟩
def spF (K : PySem.W.Frag) (ca : Nat → Value) (cf : Nat → List Slot → Co) (f : Nat) : Sp := fun vs H Q E => ∃ A0 F sl, R K A0 F ⟨sl⟩ (vs.map some) H ∧ match cf f sl with
  | .ok r es => ∀ v A1 H', Ext A0 F A1 → Keep ⟨sl⟩ (vs.map some) ⟨pins sl es⟩ (vs.map some) → R K A1 F ⟨pins sl es⟩ (vs.map some) H' → RV K A1 F ⟨pins sl es⟩ (vs.map some) H' v r → Q v H'
  | .ex c es => ∀ A1 H', Ext A0 F A1 → Keep ⟨sl⟩ (vs.map some) ⟨pins sl es⟩ (vs.map some) → R K A1 F ⟨pins sl es⟩ (vs.map some) H' → E (ca c) none H'
  | .bad => False

section
variable {K : PySem.W.Frag} {A1 F H1 : Hp} {s1 : S} {σ : List (Option V)} {rs : List Rv} {vs : List V} {sl : List Slot}
theorem RVs.get {A : Hp} : ∀ {rs : List Rv} {vs : List V}, RVs K A σ rs vs → rs.length = vs.length ∧ ∀ (j : Nat) (r : Rv), rs[j]? = some r → ∃ v, vs[j]? = some v ∧ ((∃ d, r = .v d ∧ Rep K A d v) ∨ ∃ i, r = .b i ∧ σ[i]? = some (some v))
  | _, _, .nil => ⟨rfl, fun j r h => by simp at h⟩
  | _, _, .v h t => by
    obtain ⟨q1, q2⟩ := RVs.get t
    refine ⟨by simp [q1], fun j r hj => ?_⟩
    cases j with
    | zero => simp at hj; subst hj; exact ⟨_, rfl, .inl ⟨_, rfl, h⟩⟩
    | succ j => exact q2 j r (by simpa using hj)
  | _, _, .b h t => by
    obtain ⟨q1, q2⟩ := RVs.get t
    refine ⟨by simp [q1], fun j r hj => ?_⟩
    cases j with
    | zero => simp at hj; subst hj; exact ⟨_, rfl, .inr ⟨_, rfl, h⟩⟩
    | succ j => exact q2 j r (by simpa using hj)
open Classical in
/-- what a callee must leave as it is -/
noncomputable def F2 (F H1 : Hp) (s1 : S) (σ : List (Option V)) (rs : List Rv) : Hp := fun a => if F a ≠ none then F a else if ∃ i, Own s1 σ i a ∧ i ∉ lent s1 rs then H1 a else none
theorem F2_F {a : Addr} (h : F a ≠ none) : F2 F H1 s1 σ rs a = F a := by unfold F2; rw [if_pos h]
theorem F2_own {a : Addr} {i : Nat} (h : F a = none) (o : Own s1 σ i a) (n : i ∉ lent s1 rs) : F2 F H1 s1 σ rs a = H1 a := by
  unfold F2; rw [if_neg (by rw [h]; simp), if_pos ⟨i, o, n⟩]
theorem F2_none {a : Addr} (h : F2 F H1 s1 σ rs a = none) : F a = none := by
  cases q : F a with
  | none => rfl
  | some x => rw [F2_F (by rw [q]; simp), q] at h; cases h
theorem hand_R (r1 : R K A1 F s1 σ H1) (rv : RVs K A1 σ rs vs) (hh : hand s1 rs = some sl) (hd : dist (lent s1 rs) = true) : R K A1 (F2 F H1 s1 σ rs) ⟨sl⟩ (vs.map some) H1 := by
  obtain ⟨l1, g1⟩ := hand_len hh
  obtain ⟨l2, g2⟩ := rv.get
  have at_ : ∀ (j : Nat) (x : Slot), sl[j]? = some x → ∃ r v, rs[j]? = some r ∧ vs[j]? = some v ∧ Hd s1 r x ∧ ((∃ d, r = .v d ∧ Rep K A1 d v) ∨ ∃ i, r = .b i ∧ σ[i]? = some (some v)) := by
    intro j x hx
    have hj : j < rs.length := by rw [← l1]; exact set_at hx
    obtain ⟨x', h1, h2⟩ := g1 j rs[j] (List.getElem?_eq_getElem hj)
    rw [hx] at h1; cases h1
    obtain ⟨v, h3, h4⟩ := g2 j rs[j] (List.getElem?_eq_getElem hj)
    exact ⟨_, v, List.getElem?_eq_getElem hj, h3, h2, h4⟩
  have own : ∀ (j : Nat) (a : Addr), Own ⟨sl⟩ (vs.map some) j a → ∃ i, rs[j]? = some (.b i) ∧ Own s1 σ i a ∧ i ∈ lent s1 rs := by
    rintro j a ⟨x, hx, px, q⟩
    obtain ⟨r, v, h1, h2, h3, h4⟩ := at_ j x hx
    rw [List.getElem?_map, h2] at q
    have ev : v = .ref a := Option.some.inj (Option.some.inj q)
    subst ev
    rcases h3 with ⟨d, rfl, rfl⟩ | ⟨i, rfl, h3⟩
    · cases px
    · rcases h4 with ⟨d, e, _⟩ | ⟨i', e, h4⟩
      · cases e
      · cases e
        have : ∃ y, s1.e[i]? = some y ∧ isOw y = true := by
          rcases h3 with ⟨d, _, rfl⟩ | ⟨d, _, rfl⟩ | ⟨ds, h5, _⟩ | ⟨ds, h5, _⟩ | ⟨l, ds, h5, _⟩
          · cases px
          · cases px
          · exact ⟨_, h5, rfl⟩
          · exact ⟨_, h5, rfl⟩
          · exact ⟨_, h5, rfl⟩
        obtain ⟨y, h6, h7⟩ := this
        exact ⟨i, h1, ⟨y, h6, h7, h4⟩, mem_lent.mpr ⟨j, y, h1, h6, h7⟩⟩
  refine ⟨r1.zh, fun a o e => ?_, by rw [List.length_map]; show sl.length = vs.length; rw [l1, l2], fun j x hx => ?_, fun j k a hj hk => ?_, fun j a hj => ?_⟩
  · by_cases hf : F a = none
    · unfold F2 at e
      rw [if_neg (by rw [hf]; simp)] at e
      split at e
      · exact e
      · cases e
    · rw [F2_F hf] at e; exact r1.fh _ _ e
  · obtain ⟨r, v, h1, h2, h3, h4⟩ := at_ j x hx
    refine ⟨some v, by rw [List.getElem?_map, h2]; rfl, ?_⟩
    rcases h3 with ⟨d, rfl, rfl⟩ | ⟨i, rfl, h3⟩
    · rcases h4 with ⟨d', e, h4⟩ | ⟨i, e, _⟩
      · cases e; exact .sh h4
      · cases e
    · rcases h4 with ⟨d', e, _⟩ | ⟨i', e, h4⟩
      · cases e
      · cases e
        have sl_ : ∀ y, s1.e[i]? = some y → RS K A1 H1 y (some v) := fun y hy => by
          obtain ⟨o, e1, e2⟩ := r1.sl i y hy
          rw [h4] at e1; cases e1; exact e2
        rcases h3 with ⟨d, h5, rfl⟩ | ⟨d, h5, rfl⟩ | ⟨ds, h5, rfl⟩ | ⟨ds, h5, rfl⟩ | ⟨l, ds, h5, rfl⟩
        · exact sl_ _ h5
        · cases sl_ _ h5 with | lf q => exact .sh q
        · cases sl_ _ h5 with | ow q1 q2 => exact .le q1 q2
        · exact sl_ _ h5
        · cases sl_ _ h5 with | lk q1 q2 => exact .lk q1 q2
  · obtain ⟨i, h1, h2, h3⟩ := own j a hj
    obtain ⟨i', h4, h5, h6⟩ := own k a hk
    have e := r1.sep i i' a h2 h5
    subst e
    obtain ⟨y, h7, h8, _⟩ := h2
    exact lent_inj h7 h8 hd h1 h4
  · obtain ⟨i, h1, h2, h3⟩ := own j a hj
    obtain ⟨z, f⟩ := r1.out i a h2
    refine ⟨z, ?_⟩
    unfold F2
    rw [if_neg (by rw [f]; simp), if_neg]
    rintro ⟨i', h4, h5⟩
    have e := r1.sep i i' a h2 h4
    subst e
    exact h5 h3
theorem back_R (r1 : R K A1 F s1 σ H1) (rv : RVs K A1 σ rs vs) (hh : hand s1 rs = some sl) (hd : dist (lent s1 rs) = true) {A2 H2 : Hp} {es : List Slot} {s2 : S} (e2 : Ext A1 (F2 F H1 s1 σ rs) A2)
    (kp : Keep ⟨sl⟩ (vs.map some) ⟨pins sl es⟩ (vs.map some)) (r2 : R K A2 (F2 F H1 s1 σ rs) ⟨pins sl es⟩ (vs.map some) H2) (hb : back rs es s1 = some s2) :
    R K A2 F s2 σ H2 ∧ Keep s1 σ s2 σ ∧ Ext A1 F A2 ∧ ∀ v r, (∀ i, r ≠ .b i) → RV K A2 (F2 F H1 s1 σ rs) ⟨pins sl es⟩ (vs.map some) H2 v r → RV K A2 F s2 σ H2 v r := by
  obtain ⟨l1, g1⟩ := hand_len hh
  obtain ⟨l2, g2⟩ := rv.get
  obtain ⟨bl, bi⟩ := back_is hb hd
  -- what a lent slot was and is
  have lentAt : ∀ i, i ∈ lent s1 rs → ∃ (j : Nat) (x x' c y : Slot) (v : V), rs[j]? = some (.b i) ∧ s1.e[i]? = some x ∧ isOw x = true ∧ sl[j]? = some x' ∧ isPin x' = true ∧ es[j]? = some c ∧ (pins sl es)[j]? = some c ∧ s2.e[i]? = some y ∧ Upg x c y ∧ PinTo x' c ∧
      vs[j]? = some v ∧ σ[i]? = some (some v) ∧ (∀ l ds, x = .lk l ds → x' = .lk true ds) := by
    intro i hi
    obtain ⟨j, x, h1, h2, h3⟩ := mem_lent.mp hi
    obtain ⟨c, y, h4, h5, h6⟩ := (bi i).2 j x h1 h2 h3
    obtain ⟨x', h7, h8⟩ := g1 j _ h1
    obtain ⟨v, h9, h10⟩ := g2 j _ h1
    have hv : σ[i]? = some (some v) := by
      rcases h10 with ⟨d, e, _⟩ | ⟨i', e, h⟩
      · cases e
      · cases e; exact h
    have px : isPin x' = true ∧ ∀ l ds, x = .lk l ds → x' = .lk true ds := by
      rcases h8 with ⟨d, e, _⟩ | ⟨i', e, h8⟩
      · cases e
      · cases e
        rcases h8 with ⟨d, q, rfl⟩ | ⟨d, q, rfl⟩ | ⟨ds, q, rfl⟩ | ⟨ds, q, rfl⟩ | ⟨l, ds, q, rfl⟩
        · rw [h2] at q; cases q; cases h3
        · rw [h2] at q; cases q; cases h3
        · rw [h2] at q; cases q; exact ⟨rfl, fun l ds e => by cases e⟩
        · rw [h2] at q; cases q; exact ⟨rfl, fun l ds e => by cases e⟩
        · rw [h2] at q; cases q; exact ⟨rfl, fun l ds e => by cases e; rfl⟩
    obtain ⟨_, c', h11, h12⟩ := kp j x' h7 px.1
    obtain ⟨x2, c2, h13, h14, h15⟩ := pins_get h11
    rw [h7] at h13; cases h13
    rw [h4] at h14; cases h14
    rw [if_pos px.1] at h15
    subst h15
    exact ⟨j, x, x', c', y, v, h1, h2, h3, h7, px.1, h4, h11, h5, h6, h12, h9, hv, px.2⟩
  -- an owner then is an owner now
  have own2 : ∀ i a, Own s2 σ i a → Own s1 σ i a ∧ (i ∈ lent s1 rs → ∃ j, Own ⟨pins sl es⟩ (vs.map some) j a) := by
    rintro i a ⟨y, hy, py, hσ⟩
    by_cases hi : i ∈ lent s1 rs
    · obtain ⟨j, x, x', c, y', v, h1, h2, h3, h4, h5, h6, h7, h8, h9, h10, h11, h12, h13⟩ := lentAt i hi
      rw [hy] at h8; cases h8
      rw [h12] at hσ
      have ev : v = .ref a := Option.some.inj (Option.some.inj hσ)
      subst ev
      refine ⟨⟨x, h2, h3, h12⟩, fun _ => ⟨j, c, h7, ?_, by rw [List.getElem?_map, h11]; rfl⟩⟩
      cases x with
      | ow ds => cases c <;> simp only [Upg] at h9 <;> first | rfl | (subst h9; cases py) | (exact h9.elim)
      | le ds => cases c <;> simp only [Upg] at h9 <;> first | rfl | (subst h9; cases py) | (exact h9.elim)
      | lk l ds =>
        have e : x' = .lk true ds := by first | exact h13 l ds rfl | (rename_i h13; exact h13 l ds rfl)
        subst e
        cases h10; rfl
      | no => cases h3
      | sh d => cases h3
      | lf d => cases h3
    · rw [(bi i).1 hi] at hy
      exact ⟨⟨y, hy, py, hσ⟩, fun h => absurd h hi⟩
  have ext : Ext A1 F A2 := e2.sub fun a h => by rw [F2_F h]; exact h
  refine ⟨⟨r2.zh, fun a o e => ?_, bl.trans r1.len, fun i y hy => ?_, fun i j a hi hj => r1.sep i j a (own2 i a hi).1 (own2 j a hj).1, fun i a hi => ?_⟩, fun i x hx px => ⟨rfl, ?_⟩, ext, fun v r nb h => ?_⟩
  · exact r2.fh _ _ (by rw [F2_F (by rw [e]; simp)]; exact e)
  · by_cases hi : i ∈ lent s1 rs
    · obtain ⟨j, x, x', c, y', v, h1, h2, h3, h4, h5, h6, h7, h8, h9, h10, h11, h12, h13⟩ := lentAt i hi
      rw [hy] at h8; cases h8
      refine ⟨some v, h12, ?_⟩
      obtain ⟨o, q1, q2⟩ := r2.sl j c h7
      rw [List.getElem?_map, h11] at q1
      cases q1
      cases x with
      | ow ds =>
        cases c with
        | le es => simp only [Upg] at h9; subst h9; cases q2 with | le p1 p2 => exact .ow p1 p2
        | lf d => simp only [Upg] at h9; subst h9; cases q2 with | lf p1 => exact .sh p1
        | lk l es => simp only [Upg] at h9; subst h9; cases q2 with | lk p1 p2 => exact .ow p1 p2
        | no => exact h9.elim
        | sh d => exact h9.elim
        | ow d => exact h9.elim
      | le ds =>
        cases c with
        | le es => simp only [Upg] at h9; subst h9; exact q2
        | lf d => simp only [Upg] at h9; subst h9; exact q2
        | lk l es => simp only [Upg] at h9; subst h9; cases q2 with | lk p1 p2 => exact .le p1 p2
        | no => exact h9.elim
        | sh d => exact h9.elim
        | ow d => exact h9.elim
      | lk l ds =>
        have e := h13 l ds rfl
        subst e
        cases h10
        simp only [Upg] at h9
        subst h9
        cases q2 with | lk p1 p2 => exact .lk p1 p2
      | no => cases h3
      | sh d => cases h3
      | lf d => cases h3
    · rw [(bi i).1 hi] at hy
      obtain ⟨o, q1, q2⟩ := r1.sl i y hy
      refine ⟨o, q1, q2.mono e2.same fun a py e => ?_⟩
      subst e
      have ho : Own s1 σ i a := ⟨y, hy, py, q1⟩
      have f2 : F2 F H1 s1 σ rs a = H1 a := F2_own (r1.out i a ho).2 ho hi
      cases hh1 : H1 a with
      | none =>
        obtain ⟨_, _, _, z1, _, z2, _, _⟩ := r1.owns hy py
        rw [q1] at z1; cases z1
        rw [hh1] at z2; cases z2
      | some o => exact r2.fh _ _ (by rw [f2]; exact hh1)
  · obtain ⟨h1, h2⟩ := own2 i a hi
    refine ⟨?_, (r1.out i a h1).2⟩
    by_cases hl : i ∈ lent s1 rs
    · obtain ⟨j, h3⟩ := h2 hl
      exact (r2.out j a h3).1
    · obtain ⟨z, f⟩ := r1.out i a h1
      have f2 : F2 F H1 s1 σ rs a = H1 a := F2_own f h1 hl
      obtain ⟨y, hy, py, hσ⟩ := h1
      obtain ⟨_, _, _, z1, _, z2, _, _⟩ := r1.owns hy py
      rw [hσ] at z1; cases z1
      rw [e2.off a (by rw [f2, z2]; simp)]; exact z
  · by_cases hi : i ∈ lent s1 rs
    · obtain ⟨j, x1, x', c, y', v, h1, h2, h3, h4, h5, h6, h7, h8, h9, h10, h11, h12, h13⟩ := lentAt i hi
      rw [hx] at h2; cases h2
      refine ⟨y', h8, ?_⟩
      cases x with
      | ow ds => cases px
      | le ds =>
        cases c with
        | le es => simp only [Upg] at h9; subst h9; exact .inl ⟨_, rfl⟩
        | lf d => simp only [Upg] at h9; subst h9; exact .inr (.inl ⟨_, rfl⟩)
        | lk l es => simp only [Upg] at h9; subst h9; exact .inl ⟨_, rfl⟩
        | no => exact h9.elim
        | sh d => exact h9.elim
        | ow d => exact h9.elim
      | lk l ds => simp only [Upg] at h9; subst h9; rfl
      | no => cases h3
      | sh d => cases h3
      | lf d => cases h3
    · exact ⟨x, by rw [(bi i).1 hi]; exact hx, .refl⟩
  · cases r with
    | v d => exact h
    | b i => exact absurd rfl (nb i)
    | o ds =>
      obtain ⟨a, ws, rfl, h1, h2, h3, h4, h5⟩ := h
      refine ⟨a, ws, rfl, h1, h2, h3, F2_none h4, fun i hi => ?_⟩
      obtain ⟨q1, q2⟩ := own2 i a hi
      by_cases hl : i ∈ lent s1 rs
      · obtain ⟨j, q3⟩ := q2 hl
        exact h5 j q3
      · have f2 : F2 F H1 s1 σ rs a = H1 a := F2_own (r1.out i a q1).2 q1 hl
        obtain ⟨y, hy, py, hσ⟩ := q1
        obtain ⟨_, _, _, z1, _, z2, _, _⟩ := r1.owns hy py
        rw [hσ] at z1; cases z1
        rw [f2, z2] at h4; cases h4
end
end Z

/-! Z: calls, methods as rules; what is walked; comprehensions. -/
namespace Z
open PySem PySem.Spec PyProof.Rows L2

section
variable {X : Cx} {W : WX} {ca : Nat → Value} {a b c : Expr} {fa fb fc : S → Ro Rv} {pos : Pos}
theorem call_out {cf : Nat → List Slot → Co} {f : Nat} {g : S → Ro (List Rv)} {A0 F H : Hp} {s : S} {σ : List (Option V)} {Q : VK} (r0 : R X.K A0 F s σ H)
    (h : Out X.K W ca A0 F s σ (eCall cf f g s) fun r A1 s' H' => ∀ v, RV X.K A1 F s' σ H' v r → Q v H') : tA X.K W ca g σ H fun vs H1 => spF X.K ca cf f vs H1 Q (WE W σ) := by
  refine ⟨A0, F, s, r0, h.bind.mono fun rs A1 s1 H1 e1 k1 r1 h1 vs rvs => ?_⟩
  split at h1
  · exact h1.elim
  · rename_i sl hh
    split at h1
    · rename_i hd
      refine ⟨A1, F2 F H1 s1 σ rs, sl, hand_R r1 rvs hh hd, ?_⟩
      cases hc : cf f sl with
      | bad => rw [hc] at h1; exact h1.elim
      | ex c es =>
        rw [hc] at h1
        dsimp only at h1
        cases hb : back rs es s1 with
        | none => rw [hb] at h1; exact h1.elim
        | some s2 =>
          rw [hb] at h1
          intro A2 H2 e2 kp r2
          obtain ⟨q1, q2, q3, q4⟩ := back_R r1 rvs hh hd e2 kp r2 hb
          exact h1 A2 H2 q3 q2 q1
      | ok r es =>
        rw [hc] at h1
        have nb : ∀ i, r ≠ .b i := fun i e => by subst e; exact h1.elim
        have h2 : Out X.K W ca A1 F s1 σ (match back rs es s1 with | some s2 => .ok r s2 | none => .bad) fun r A1 s' H' => ∀ v, RV X.K A1 F s' σ H' v r → Q v H' := by
          cases r with
          | b i => exact absurd rfl (nb i)
          | v d => exact h1
          | o ds => exact h1
        cases hb : back rs es s1 with
        | none => rw [hb] at h2; exact h2.elim
        | some s2 =>
          rw [hb] at h2
          intro v A2 H2 e2 kp r2 rv
          obtain ⟨q1, q2, q3, q4⟩ := back_R r1 rvs hh hd e2 kp r2 hb
          exact h2 A2 H2 q3 q2 q1 v (q4 v r nb rv)
    · exact h1.elim
theorem se_call {cf : Nat → List Slot → Co} {fi k : Nat} {f : Addr} {fd : FuncData} {ps : List Str} {x : Str} {p : Pos} {e : Expr} {es : List Expr} {g : S → Ro (List Rv)} (tk : Takes X W)
    (F : FnOk X.prog X.w X.K X.mg X.base (L2.CX X.prog X.w) k f fd ps (spF X.K ca cf fi)) (hr : Room k X.A) (hg : Gl X x) (hm : X.mg x = some (.ref f)) (hk : PySem.W.keepIn X.K (.ref f) = true) (hb : Binds X.K fd ps [])
    (ha : SA X W ca (e :: es) g) (hdb : (x == ("__debug__" : Str)) = false) (he : starEach (e :: es) X.env = (false, eval e X.env) :: starEach es X.env) (hpl : (backTo pos (starEach es X.env)).any (·.1) = false) :
    SE X W ca (.Call (.Name x p) (e :: es) [] pos) (eCall cf fi g) :=
  PE.imp (pe_callS F hr hg hm hk hb (fun σ => passAt tk σ) ha hdb he hpl) fun σ H Q ⟨A0, F, s, r0, h⟩ => call_out r0 h
theorem se_call0 {cf : Nat → List Slot → Co} {fi k : Nat} {f : Addr} {fd : FuncData} {ps : List Str} {x : Str} {p : Pos} (tk : Takes X W)
    (F : FnOk X.prog X.w X.K X.mg X.base (L2.CX X.prog X.w) k f fd ps (spF X.K ca cf fi)) (hr : Room k X.A) (hg : Gl X x) (hm : X.mg x = some (.ref f)) (hk : PySem.W.keepIn X.K (.ref f) = true) (hb : Binds X.K fd ps [])
    (hdb : (x == ("__debug__" : Str)) = false) : SE X W ca (.Call (.Name x p) [] [] pos) (eCall cf fi fun s => .ok [] s) := by
  refine ⟨fun pins s σ H Q I ⟨A0, F0, s0, r0, h⟩ => ?_⟩
  obtain ⟨A0', F', s', r', q⟩ := call_out r0 h
  have h2 := (q A0' H .refl .refl r') [] .nil
  refine wpAny_Call_Name_kw (ld_glob I hg hm ?_ hdb)
  exact PySem.W.callWith_K0 I.kIn hk (run_fnS (us := []) F hr hb (passAt tk σ) I .nil h2)
/-! methods -/
def mTy : Met → String
  | .reverse => "list" | .clear => "list" | .insert => "list" | .append => "list" | .pop => "list" | .popAt => "list" | .index => "list" | _ => "str"
theorem metR_some {m : Met} {d : D} {ds : List D} {r : Rv} {xs : List D} (h : metR m d ds = some (r, some xs)) : ∃ r', r = .v r' := by
  cases r with
  | v d => exact ⟨d, rfl⟩
  | b i => exact absurd rfl (metR_nb h i)
  | o es =>
    cases m with
    | append => simp only [metR] at h; split at h <;> first | (cases h; done) | (split at h <;> cases h)
    | pop => simp only [metR] at h; split at h <;> first | (cases h; done) | (obtain ⟨_, _, h⟩ := Option.map_eq_some_iff.mp h; cases h)
    | popAt =>
      simp only [metR] at h
      split at h
      · split at h
        · obtain ⟨_, _, h⟩ := Option.bind_eq_some_iff.mp h
          obtain ⟨_, _, h⟩ := Option.map_eq_some_iff.mp h
          cases h
        · cases h
      · cases h
    | join =>
      simp only [metR] at h
      split at h <;> first | (cases h; done) | (obtain ⟨_, _, h⟩ := Option.bind_eq_some_iff.mp h; split at h <;> cases h)
    | index =>
      simp only [metR] at h
      split at h
      · split at h
        · obtain ⟨_, _, h⟩ := Option.map_eq_some_iff.mp h; cases h
        · cases h
      · cases h
    | ewith => cases h
    | split => cases h
    | _ => simp only [metR] at h; split at h <;> first | (cases h; done) | (split at h <;> cases h)
theorem mok_ty {m : Met} {K : PySem.W.Frag} {A0 H : Hp} {d : D} {v : V} (z : Same A0 H) (h : Rd K A0 H d v) (k : mok m d = true) : tyV K (mTy m) v H := by
  have l : ∀ ds, d = .lst ds → tyV K "list" v H := fun ds e => by
    subst e
    obtain ⟨a, vs, rfl, h1, _⟩ := h.lst z
    exact .inl ⟨rfl, vs, .inl (.inl h1)⟩
  have t : ∀ s, d = .str s → tyV K "str" v H := fun s e => by
    subst e
    rw [h.str.1]; exact rfl
  cases m <;> cases d <;> first | (cases k; done) | exact l _ rfl | exact t _ rfl
theorem met_out {m : Met} {g : S → Ro (List D)} {A0 F H : Hp} {s : S} {σ : List (Option V)} {Q : VK} (r0 : R X.K A0 F s σ H)
    (h : Out X.K W ca A0 F s σ (eMet m fa g s) fun r A1 s' H' => ∀ v, RV X.K A1 F s' σ H' v r → Q v H') : tBM X.K (mTy m) (rMet X.K m) (tE X.K W ca fa) (tAF X.K W ca g) σ H Q := by
  refine ⟨A0, F, s, r0, h.bind.mono fun ra A1 s1 H1 e1 k1 r1 h1 v rv => ?_⟩
  obtain ⟨u, hu, h2⟩ := h1.bind.ofO
  obtain ⟨d0, hd0, hu⟩ := Option.bind_eq_some_iff.mp hu
  have hmok : mok m d0 = true := by
    split at hu
    · assumption
    · cases hu
  refine ⟨mok_ty r1.zh (r1.cnt hd0 rv) hmok, ?_⟩
  obtain ⟨A1', e1', r1', rv'⟩ := rv.opd r1
  have h3 := (h2.ext e1').now r1'
  refine ⟨A1', F, s1, r1', h3.bind.mono fun ds A2 s2 H2 e2 k2 r2 h4 vs rvs => ?_⟩
  have rv2 := RV.keep (s' := s2) (H' := H2) rv' opd_no e2.same
  cases hm : (cnt s2 ra).bind fun d => metR m d ds with
  | none => rw [hm] at h4; exact h4.elim
  | some q =>
    obtain ⟨r, new⟩ := q
    rw [hm] at h4
    obtain ⟨d, hd, hr⟩ := Option.bind_eq_some_iff.mp hm
    rw [← cnt_opd] at hd
    cases new with
    | none => exact ⟨d, ds, A2, r, none, r2.zh, r2.cnt hd rv2, rvs, hr, New.of r2 h4 (metR_nb hr)⟩
    | some es =>
      obtain ⟨r', hr'⟩ := metR_some hr
      subst hr'
      cases ra with
      | v d' => exact h4.elim
      | o d' => exact h4.elim
      | b i =>
        have rvi : σ[i]? = some (some v) := rv2
        dsimp only at h4
        cases hs : mutS i es s2 with
        | none => rw [hs] at h4; exact h4.elim
        | some s3 =>
          rw [hs] at h4
          unfold mutS at hs
          split at hs
          · rename_i ds0 hx
            cases hs
            obtain ⟨a, ws, ds1, q1, _, q3, _⟩ := r2.owns hx rfl
            rw [rvi] at q1; cases q1
            refine ⟨d, ds, A2, _, some es, r2.zh, r2.cnt hd rv2, rvs, hr, a, r', rfl, rfl, fun v' vs' rp1 rp2 => ?_⟩
            refine h4 A2 _ .refl (fun j y hy py => ⟨rfl, y, ?_, .refl⟩) (r2.mut hx (.inl ⟨rfl, rfl⟩) rvi rp2) v' rp1
            rw [List.getElem?_set_ne (fun e => by subst e; rw [hx] at hy; cases hy; cases py)]
            exact hy
          · rename_i ds0 hx
            cases hs
            obtain ⟨a, ws, ds1, q1, _, q3, _⟩ := r2.owns hx rfl
            rw [rvi] at q1; cases q1
            refine ⟨d, ds, A2, _, some es, r2.zh, r2.cnt hd rv2, rvs, hr, a, r', rfl, rfl, fun v' vs' rp1 rp2 => ?_⟩
            refine h4 A2 _ .refl (fun j y hy py => ⟨rfl, ?_⟩) (r2.mut hx (.inr ⟨rfl, rfl⟩) rvi rp2) v' rp1
            by_cases e : i = j
            · subst e
              rw [hx] at hy; cases hy
              exact ⟨_, List.getElem?_set_self (set_at hx), .inl ⟨_, rfl⟩⟩
            · exact ⟨y, by rw [List.getElem?_set_ne e]; exact hy, .refl⟩
          · cases hs
theorem joi_nb {d : D} {ds : List D} {r : Rv} (h : (metR .join d ds).map (·.1) = some r) : ∀ i, r ≠ .b i := by
  obtain ⟨⟨r0, n0⟩, hk, hr⟩ := Option.map_eq_some_iff.mp h
  dsimp only at hr
  subst hr
  exact metR_nb hk
theorem joi_out {g : S → Ro (List Rv)} {A0 F H : Hp} {s : S} {σ : List (Option V)} {Q : VK} (r0 : R X.K A0 F s σ H)
    (h : Out X.K W ca A0 F s σ (eJoi fa g s) fun r A1 s' H' => ∀ v, RV X.K A1 F s' σ H' v r → Q v H') : tBM X.K "str" (rJoi X.K) (tE X.K W ca fa) (tA X.K W ca g) σ H Q := by
  refine ⟨A0, F, s, r0, h.bind.mono fun ra A1 s1 H1 e1 k1 r1 h1 v rv => ?_⟩
  obtain ⟨u, hu, h2⟩ := h1.bind.ofO
  obtain ⟨d0, hd0, hu⟩ := Option.bind_eq_some_iff.mp hu
  have hmok : mok .join d0 = true := by
    split at hu
    · assumption
    · cases hu
  refine ⟨mok_ty (m := .join) r1.zh (r1.cnt hd0 rv) hmok, ?_⟩
  obtain ⟨A1', e1', r1', rv'⟩ := rv.opd r1
  have h3 := (h2.ext e1').now r1'
  refine ⟨A1', F, s1, r1', h3.bind.mono fun rs A2 s2 H2 e2 k2 r2 h4 vs rvs => ?_⟩
  have rv2 := RV.keep (s' := s2) (H' := H2) rv' opd_no e2.same
  obtain ⟨r, hr, h5⟩ := h4.ofO
  obtain ⟨d, hd, hr⟩ := Option.bind_eq_some_iff.mp hr
  obtain ⟨ds, hds, hr⟩ := Option.bind_eq_some_iff.mp hr
  rw [← cnt_opd] at hd
  exact ⟨d, ds, A2, r, r2.zh, r2.cnt hd rv2, rvs.rds r2 hds, hr, New.of r2 h5 (joi_nb hr)⟩
/-- list(range(n)) is walked as a range: below -/
theorem isi_ty {K : PySem.W.Frag} {A0 H : Hp} {d : D} {v : V} (h : Rd K A0 H d v) : True := trivial
end

/-! ### what is walked -/
/-- the locked slots as they stand -/
def LkOk (lk : Lk) (s : S) : Prop := ∀ p ∈ lk, ∃ l ds, s.e[p.1]? = some (.lk l ds) ∧ (p.2 = .ow ds ∨ p.2 = .le ds ∨ ∃ l', p.2 = .lk l' ds)
/-- what stood in them keeps what was pinned -/
def LkB (s : S) (lk : Lk) : Prop := ∀ p ∈ lk, ∀ x, s.e[p.1]? = some x → isPin x = true → PinTo x p.2
section
variable (K : PySem.W.Frag)
/-- the items that J yields, wherever what it leans on still stands -/
structure WalkOk (A1 : Hp) (s' : S) (σ : List (Option V)) (J : It) (items : List D) (lk : Lk) : Prop where
  lok : LkOk lk s'
  run : ∀ (i : Nat) (A2 F2 : Hp) (s2 : S) (σ2 : List (Option V)) (H2 : Hp), R K A2 F2 s2 σ2 H2 → Same A1 A2 → (∀ p ∈ lk, s2.e[p.1]? = s'.e[p.1]? ∧ σ2[p.1]? = σ[p.1]?) →
    (i < items.length → J.go i H2 ∧ ∀ x H3, J.yld i H2 x H3 → ∃ A3 d, items[i]? = some d ∧ Ext A2 F2 A3 ∧ R K A3 F2 s2 σ2 H3 ∧ Rep K A3 d x) ∧ (items.length ≤ i → J.stop i H2)
def tI (W : WX) (ca : Nat → Value) (f : S → Ro (List D × Lk)) : TI := fun σ H P => ∃ A0 F s, R K A0 F s σ H ∧ Out K W ca A0 F s σ (f s) fun p A1 s' H' => ∀ J, LkB s p.2 → WalkOk K A1 s' σ J p.1 p.2 → P J H'
end
end Z

/-! Z: what is walked. -/
namespace Z
open PySem PySem.Spec PyProof.Rows L2

/-- what a lock does: the datum, the locked slots; from then on the datum is readable -/
structure Locked (K : PySem.W.Frag) (A1 F : Hp) (s1 s2 : S) (σ : List (Option V)) (H1 : Hp) (v : V) (d : D) (lk : Lk) : Prop where
  r : R K A1 F s2 σ H1
  kp : Keep s1 σ s2 σ
  lok : LkOk lk s2
  old : LkB s1 lk
  at_ : ∀ p ∈ lk, σ[p.1]? = some (some v)
  /-- wherever the locked slots stand as they stand now -/
  rd : ∀ (A2 F2 : Hp) (s3 : S) (σ3 : List (Option V)) (H3 : Hp), R K A2 F2 s3 σ3 H3 → Same A1 A2 → (∀ p ∈ lk, s3.e[p.1]? = s2.e[p.1]? ∧ σ3[p.1]? = σ[p.1]?) → Rd K A2 H3 d v
theorem Keep.lock {s : S} {σ : List (Option V)} {i : Nat} {x y : Slot} (h : s.e[i]? = some x) (p : isPin x = true → PinTo x y) : Keep s σ ⟨s.e.set i y⟩ σ := fun j z hz pz => ⟨rfl, by
  by_cases e : i = j
  · subst e
    rw [h] at hz; cases hz
    exact ⟨y, List.getElem?_set_self (set_at h), p pz⟩
  · exact ⟨z, by rw [List.getElem?_set_ne e]; exact hz, .refl⟩⟩
theorem lock_ok {K : PySem.W.Frag} {A1 F H1 : Hp} {s1 s2 : S} {σ : List (Option V)} {v : V} {r : Rv} {d : D} {lk : Lk} (r1 : R K A1 F s1 σ H1) (rv : RV K A1 F s1 σ H1 v (opd r)) (h : lockO (opd r) s1 = .ok (d, lk) s2) : Locked K A1 F s1 s2 σ H1 v d lk := by
  have none_lk : ∀ {d' : D}, Rep K A1 d' v → lockO (opd r) s1 = .ok (d', []) s1 → Locked K A1 F s1 s2 σ H1 v d lk := fun {d'} rp e => by
    rw [e] at h
    injection h with h h2
    injection h with h h3
    subst h h2 h3
    exact ⟨r1, .refl, fun p hp => absurd hp (by simp), fun p hp => absurd hp (by simp), fun p hp => absurd hp (by simp), fun A2 F2 s3 σ3 H3 _ e _ => .inl (rp.mono e)⟩
  cases r with
  | v d' => exact none_lk rv rfl
  | o ds => exact none_lk rv rfl
  | b i =>
    have rvi : σ[i]? = some (some v) := rv
    have set_ : ∀ {x y : Slot} {ds : List D} {l : Bool}, s1.e[i]? = some x → (x = .ow ds ∨ x = .le ds ∨ x = .lk l ds) → y = .lk l ds → (isPin x = true → PinTo x y) → lockO (.b i) s1 = .ok (.lst ds, [(i, x)]) ⟨s1.e.set i y⟩ →
        Locked K A1 F s1 s2 σ H1 v d lk := fun {x y ds l} hx h3 hy pin e => by
      have h' : lockO (.b i) s1 = .ok (d, lk) s2 := h
      rw [e] at h'
      injection h' with h' h2
      injection h' with h' h4
      subst h' h2 h4 hy
      have px : isOw x = true := by rcases h3 with rfl | rfl | rfl <;> rfl
      obtain ⟨a, vs, ds', q1, q2, q3, q4, q5⟩ := r1.owns hx px
      have ed : ds' = ds := by
        rcases h3 with rfl | rfl | rfl <;> rcases q5 with q5 | q5 | ⟨l', q5⟩ <;> first | (cases q5; done) | (injection q5 with q5; exact q5.symm) | (injection q5 with _ q5; exact q5.symm)
      subst ed
      rw [rvi] at q1; cases q1
      have ro := r1.out i a q2
      refine ⟨r1.tell (fun o q => ?_) (fun _ b q => ?_), .lock hx pin, fun p hp => ?_, fun p hp x' hx' px' => ?_, fun p hp => ?_, fun A2 F2 s3 σ3 H3 r3 e3 hk => ?_⟩
      · rw [rvi] at q; cases q; exact .lk q3 q4
      · rw [rvi] at q; cases q
        exact ⟨ro.1, ro.2, fun j hj hown => hj (r1.sep j i a hown q2)⟩
      · have : p = (i, x) := by simpa using hp
        subst this
        refine ⟨l, ds', List.getElem?_set_self (set_at hx), ?_⟩
        rcases h3 with rfl | rfl | rfl
        · exact .inl rfl
        · exact .inr (.inl rfl)
        · exact .inr (.inr ⟨_, rfl⟩)
      · have : p = (i, x) := by simpa using hp
        subst this
        rw [hx] at hx'; cases hx'
        exact .refl
      · have : p = (i, x) := by simpa using hp
        subst this
        exact rvi
      · obtain ⟨k1, k2⟩ := hk (i, x) (by simp)
        dsimp only at k1 k2
        rw [List.getElem?_set_self (set_at hx)] at k1
        rw [rvi] at k2
        obtain ⟨o, z1, z2⟩ := r3.sl i _ k1
        rw [k2] at z1; cases z1
        cases z2 with | lk z3 z4 => exact .inr ⟨_, _, _, rfl, rfl, z3, z4⟩
    have hb : lockO (.b i) s1 = .ok (d, lk) s2 := h
    simp only [lockO] at hb
    split at hb
    · rename_i d' hx
      obtain ⟨o, e1, e2⟩ := r1.sl i _ hx
      rw [rvi] at e1; cases e1
      cases e2 with | sh q => exact none_lk q (by show lockO (.b i) s1 = _; simp only [lockO, hx])
    · rename_i d' hx
      obtain ⟨o, e1, e2⟩ := r1.sl i _ hx
      rw [rvi] at e1; cases e1
      cases e2 with | lf q => exact none_lk q (by show lockO (.b i) s1 = _; simp only [lockO, hx])
    · rename_i ds hx
      exact set_ (l := false) hx (.inl rfl) rfl (fun p => by cases p) (by simp only [lockO, hx])
    · rename_i ds hx
      exact set_ (l := true) hx (.inr (.inl rfl)) rfl (fun _ => .inr (.inr ⟨_, rfl⟩)) (by simp only [lockO, hx])
    · rename_i l ds hx
      refine set_ (l := l) hx (.inr (.inr rfl)) rfl (fun _ => rfl) ?_
      have e : s1.e.set i (.lk l ds) = s1.e := by
        refine List.ext_getElem? fun m => ?_
        by_cases em : i = m
        · subst em; rw [List.getElem?_set_self (set_at hx), hx]
        · rw [List.getElem?_set_ne em]
      rw [e]
      simp only [lockO, hx]
    · cases hb
theorem sql_inj {H : Hp} {a : Addr} {vs xs : List V} {K : PySem.W.Frag} {X : Cx} {pins : List (Addr × Obj)} {σ : L2.St} {s : Shared} (I : Inv X pins σ H s) (h : H a = some (.lst vs)) (q : SqL X.K H a xs) : xs = vs := I.list_inj q (.inl (.inl h))
section
variable {K : PySem.W.Frag} {A1 : Hp} {s' : S} {σ : List (Option V)} {items : List D} {lk : Lk} {v : V} {d : D}
theorem lok_app {lk' : Lk} {s1' : S} (h : LkOk lk s1') (h' : LkOk lk' s') (hs : ∀ p ∈ lk, s'.e[p.1]? = s1'.e[p.1]?) : LkOk (lk ++ lk') s' := fun p hp => by
  rcases List.mem_append.mp hp with hp | hp
  · obtain ⟨l, ds, h1, h2⟩ := h p hp
    exact ⟨l, ds, (hs p hp).trans h1, h2⟩
  · exact h' p hp
theorem walk_lst {F : Hp} {s1 : S} {H1 : Hp} {a : Addr} (L : Locked K A1 F s1 s' σ H1 (.ref a) (.lst items) lk) : WalkOk K A1 s' σ (Itl K a) items lk := ⟨L.lok, fun i A2 F2 s2 σ2 H2 r2 e hk => by
  obtain ⟨b, vs, e1, h1, h2⟩ := (L.rd A2 F2 s2 σ2 H2 r2 e hk).lst r2.zh
  cases e1
  refine ⟨fun hi => ?_, fun hi => ⟨vs, .inl (.inl h1), by rw [← h2.length]; exact hi⟩⟩
  obtain ⟨w, h3, h4⟩ := h2.get (List.getElem?_eq_getElem hi)
  refine ⟨⟨vs, w, .inl (.inl h1), h3⟩, fun x H3 ⟨e2, q⟩ => ?_⟩
  subst e2
  have := q vs (.inl (.inl h1))
  rw [h3] at this; cases this
  exact ⟨A2, _, List.getElem?_eq_getElem hi, .refl, r2, h4⟩⟩
theorem walk_tup {F : Hp} {s1 : S} {H1 : Hp} {a : Addr} (L : Locked K A1 F s1 s' σ H1 (.ref a) (.tup items) lk) : WalkOk K A1 s' σ (Itt K a) items lk := ⟨L.lok, fun i A2 F2 s2 σ2 H2 r2 e hk => by
  obtain ⟨b, vs, e1, h1, h2⟩ := (L.rd A2 F2 s2 σ2 H2 r2 e hk).tup r2.zh
  cases e1
  refine ⟨fun hi => ?_, fun hi => ⟨vs, h1, by rw [← h2.length]; exact hi⟩⟩
  obtain ⟨w, h3, h4⟩ := h2.get (List.getElem?_eq_getElem hi)
  refine ⟨⟨vs, w, h1, h3⟩, fun x H3 ⟨e2, q⟩ => ?_⟩
  subst e2
  have := q vs h1
  rw [h3] at this; cases this
  exact ⟨A2, _, List.getElem?_eq_getElem hi, .refl, r2, h4⟩⟩
theorem walk_str {z : List Nat} (o : SOk z) (hl : LkOk lk s') : WalkOk K A1 s' σ (Its (sOf z)) (z.map fun c => D.str [c]) lk := ⟨hl, fun i A2 F2 s2 σ2 H2 r2 e hk => by
  have el : (sOf z).cps.size = z.length := by simp [sOf]
  refine ⟨fun hi => ?_, fun hi => ?_⟩
  · rw [List.length_map] at hi
    refine ⟨by show i < (sOf z).cps.size; rw [el]; exact hi, fun x H3 ⟨e2, c, h1, h2⟩ => ?_⟩
    subst e2 h2
    have h3 : z[i]? = some c := by simpa [sOf] using h1
    exact ⟨A2, .str [c], by rw [List.getElem?_map, h3]; rfl, .refl, r2, .str [c] fun q hq => by
      have : q = c := by simpa using hq
      subst this
      exact o q (List.mem_of_getElem? h3)⟩
  · rw [List.length_map] at hi
    show (sOf z).cps.size ≤ i
    rw [el]; exact hi⟩
theorem walk_rng {lo : Int} {n : Nat} (hl : LkOk lk s') : WalkOk K A1 s' σ (Itr lo n) ((List.range n).map fun (k : Nat) => D.int (lo + (k : Int))) lk := ⟨hl, fun i A2 F2 s2 σ2 H2 r2 e hk => by
  refine ⟨fun hi => ?_, fun hi => (by simpa using hi : n ≤ i)⟩
  have hi' : i < n := by simpa using hi
  refine ⟨hi', fun x H3 ⟨e2, h2⟩ => ?_⟩
  subst e2 h2
  exact ⟨A2, .int (lo + (i : Int)), by rw [List.getElem?_map, List.getElem?_range hi']; rfl, .refl, r2, .int _⟩⟩
theorem walk_rngC {lo c : Int} {n : Nat} (hl : LkOk lk s') : WalkOk K A1 s' σ (Itc lo c n) ((List.range n).map fun (k : Nat) => D.int (lo + (k : Int) * c)) lk := ⟨hl, fun i A2 F2 s2 σ2 H2 r2 e hk => by
  refine ⟨fun hi => ?_, fun hi => (by simpa using hi : n ≤ i)⟩
  have hi' : i < n := by simpa using hi
  refine ⟨hi', fun x H3 ⟨e2, h2⟩ => ?_⟩
  subst e2 h2
  exact ⟨A2, .int (lo + (i : Int) * c), by rw [List.getElem?_map, List.getElem?_range hi']; rfl, .refl, r2, .int _⟩⟩
theorem walk_enum {F : Hp} {s1 : S} {H1 : Hp} {a : Addr} (L : Locked K A1 F s1 s' σ H1 (.ref a) (.lst items) lk) : WalkOk K A1 s' σ (Ite K a) (items.zipIdx.map fun q => .tup [.int (q.2 : Int), q.1]) lk := ⟨L.lok, fun i A2 F2 s2 σ2 H2 r2 e hk => by
  obtain ⟨b, vs, e1, h1, h2⟩ := (L.rd A2 F2 s2 σ2 H2 r2 e hk).lst r2.zh
  cases e1
  refine ⟨fun hi => ?_, fun hi => ⟨vs, .inl (.inl h1), by rw [← h2.length]; simpa using hi⟩⟩
  have hi' : i < items.length := by simpa using hi
  obtain ⟨w, h3, h4⟩ := h2.get (List.getElem?_eq_getElem hi')
  refine ⟨⟨vs, w, .inl (.inl h1), h3⟩, fun x H3 ⟨T, y, e2, nT, e3, q⟩ => ?_⟩
  subst e2 e3
  have := q vs (.inl (.inl h1))
  rw [h3] at this; cases this
  obtain ⟨z, f, _⟩ := r2.none_of nT
  refine ⟨_, .tup [.int (i : Int), items[i]], by rw [List.getElem?_map, List.getElem?_zipIdx, List.getElem?_eq_getElem hi']; simp, .fix z f, r2.grow nT, .tup (.inl (.inl upd_same)) (.cons (.int _) (.cons (h4.mono (same_upd z)) .nil))⟩⟩
theorem walk_zip {F F' : Hp} {s1 s1' s1'' : S} {H1 H1' : Hp} {a b : Addr} {es : List D} {lk' : Lk} (L : Locked K A1 F s1 s1' σ H1 (.ref a) (.lst items) lk) (L' : Locked K A1 F' s1'' s' σ H1' (.ref b) (.lst es) lk')
    (hs : ∀ p ∈ lk, s'.e[p.1]? = s1'.e[p.1]?) : WalkOk K A1 s' σ (Itz K a b) ((items.zip es).map fun x => .tup [x.1, x.2]) (lk ++ lk') := ⟨lok_app L.lok L'.lok hs, fun i A2 F2 s2 σ2 H2 r2 e hk => by
  obtain ⟨b1, vs, e1, h1, h2⟩ := (L.rd A2 F2 s2 σ2 H2 r2 e fun p hp => ⟨((hk p (List.mem_append_left _ hp)).1).trans (hs p hp), (hk p (List.mem_append_left _ hp)).2⟩).lst r2.zh
  cases e1
  obtain ⟨b2, ws, e2, h3, h4⟩ := (L'.rd A2 F2 s2 σ2 H2 r2 e fun p hp => hk p (List.mem_append_right _ hp)).lst r2.zh
  cases e2
  refine ⟨fun hi => ?_, fun hi => ⟨vs, ws, .inl (.inl h1), .inl (.inl h3), ?_⟩⟩
  · have hi' : i < items.length ∧ i < es.length := by simp at hi; omega
    obtain ⟨w, h5, h6⟩ := h2.get (List.getElem?_eq_getElem hi'.1)
    obtain ⟨u, h7, h8⟩ := h4.get (List.getElem?_eq_getElem hi'.2)
    refine ⟨⟨vs, ws, w, u, .inl (.inl h1), .inl (.inl h3), h5, h7⟩, fun x H3 ⟨T, y, y2, e3, nT, e4, q, q2⟩ => ?_⟩
    subst e3 e4
    have := q vs (.inl (.inl h1))
    rw [h5] at this; cases this
    have := q2 ws (.inl (.inl h3))
    rw [h7] at this; cases this
    obtain ⟨z, f, _⟩ := r2.none_of nT
    refine ⟨_, .tup [items[i], es[i]], ?_, .fix z f, r2.grow nT, .tup (.inl (.inl upd_same)) (.cons (h6.mono (same_upd z)) (.cons (h8.mono (same_upd z)) .nil))⟩
    rw [List.getElem?_map, List.getElem?_eq_getElem (by simp; omega)]
    simp
  · rw [← h2.length, ← h4.length]
    simp at hi
    omega⟩
theorem walk_zipT {F F' : Hp} {s1 s1' s1'' : S} {H1 H1' : Hp} {a b : Addr} {es : List D} {lk' : Lk} (L : Locked K A1 F s1 s1' σ H1 (.ref a) (.tup items) lk) (L' : Locked K A1 F' s1'' s' σ H1' (.ref b) (.tup es) lk')
    (hs : ∀ p ∈ lk, s'.e[p.1]? = s1'.e[p.1]?) : WalkOk K A1 s' σ (RZ.ItzT K a b) ((items.zip es).map fun x => .tup [x.1, x.2]) (lk ++ lk') := ⟨lok_app L.lok L'.lok hs, fun i A2 F2 s2 σ2 H2 r2 e hk => by
  obtain ⟨b1, vs, e1, h1, h2⟩ := (L.rd A2 F2 s2 σ2 H2 r2 e fun p hp => ⟨((hk p (List.mem_append_left _ hp)).1).trans (hs p hp), (hk p (List.mem_append_left _ hp)).2⟩).tup r2.zh
  cases e1
  obtain ⟨b2, ws, e2, h3, h4⟩ := (L'.rd A2 F2 s2 σ2 H2 r2 e fun p hp => hk p (List.mem_append_right _ hp)).tup r2.zh
  cases e2
  refine ⟨fun hi => ?_, fun hi => ⟨vs, ws, h1, h3, ?_⟩⟩
  · have hi' : i < items.length ∧ i < es.length := by simp at hi; omega
    obtain ⟨w, h5, h6⟩ := h2.get (List.getElem?_eq_getElem hi'.1)
    obtain ⟨u, h7, h8⟩ := h4.get (List.getElem?_eq_getElem hi'.2)
    refine ⟨⟨vs, ws, w, u, h1, h3, h5, h7⟩, fun x H3 ⟨T, y, y2, e3, nT, e4, q, q2⟩ => ?_⟩
    subst e3 e4
    have := q vs h1
    rw [h5] at this; cases this
    have := q2 ws h3
    rw [h7] at this; cases this
    obtain ⟨z, f, _⟩ := r2.none_of nT
    refine ⟨_, .tup [items[i], es[i]], ?_, .fix z f, r2.grow nT, .tup (.inl (.inl upd_same)) (.cons (h6.mono (same_upd z)) (.cons (h8.mono (same_upd z)) .nil))⟩
    rw [List.getElem?_map, List.getElem?_eq_getElem (by simp; omega)]
    simp
  · rw [← h2.length, ← h4.length]
    simp at hi
    omega⟩
end
end Z

/-! Z: what is walked, as rules; targets; loops. -/
namespace Z
open PySem PySem.Spec PyProof.Rows L2

section
variable {X : Cx} {W : WX} {ca : Nat → Value} {tg e a b c : Expr} {f : S → Ro Rv} {g : S → Ro (List Rv)} {pos p : Pos}
theorem evI_seq {s0 s2 : S} {items : List D} {lk : Lk} (h : evI .seq (fun s => (f s).bind fun x s1 => .ok [opd x] s1) s0 = .ok (items, lk) s2) : ∃ x s1 d, f s0 = .ok x s1 ∧ lockO (opd x) s1 = .ok (d, lk) s2 ∧ itemsOf d = some items := by
  cases hf : f s0 with
  | bad => simp [evI, hf, Ro.bind] at h
  | ex c s1 => simp [evI, hf, Ro.bind] at h
  | ok x s1 =>
    cases hl : lockO (opd x) s1 with
    | bad => simp [evI, itK, itSeq, hf, hl, Ro.bind] at h
    | ex c s1 => simp [evI, itK, itSeq, hf, hl, Ro.bind] at h
    | ok q s3 =>
      obtain ⟨d, lk'⟩ := q
      cases hi : itemsOf d with
      | none => simp [evI, itK, itSeq, hf, hl, hi, Ro.bind, ofO] at h
      | some ds =>
        simp [evI, itK, itSeq, hf, hl, hi, Ro.bind, ofO] at h
        obtain ⟨⟨rfl, rfl⟩, rfl⟩ := h
        exact ⟨x, s1, d, rfl, hl, hi⟩
theorem evI_seq_ex {s0 s2 : S} {c : Nat} (h : evI .seq (fun s => (f s).bind fun x s1 => .ok [opd x] s1) s0 = .ex c s2) : f s0 = .ex c s2 := by
  cases hf : f s0 with
  | bad => simp [evI, hf, Ro.bind] at h
  | ex c s1 => simp [evI, hf, Ro.bind] at h; obtain ⟨rfl, rfl⟩ := h; rfl
  | ok x s1 =>
    exfalso
    cases hl : lockO (opd x) s1 with
    | bad => simp [evI, itK, itSeq, hf, hl, Ro.bind] at h
    | ex c s1 =>
      cases x with
      | v d => cases hl
      | o d => cases hl
      | b i => simp only [opd, lockO] at hl; split at hl <;> cases hl
    | ok q s3 =>
      cases hi : itemsOf q.1 with
      | none => simp [evI, itK, itSeq, hf, hl, hi, Ro.bind, ofO] at h
      | some ds => simp [evI, itK, itSeq, hf, hl, hi, Ro.bind, ofO] at h
theorem lkB_of {s0 s1 : S} {σ : List (Option V)} {lk : Lk} (k : KeepE s0 s1 σ) (o : LkB s1 lk) : LkB s0 lk := fun p hp x hx px => by
  obtain ⟨_, y, h1, h2⟩ := k p.1 x hx px
  exact h2.trans (o p hp y h1 (h2.pin px))
theorem lkB_nil {s : S} : LkB s [] := fun p hp => absurd hp (by simp)
theorem lok_nil {s : S} : LkOk [] s := fun p hp => absurd hp (by simp)
theorem pi_seq (he : SE X W ca e f) : PI X tg e (tI X.K W ca (evI .seq fun s => (f s).bind fun x s1 => .ok [opd x] s1)) := by
  refine ⟨fun pins s σ H P I h => ?_⟩
  obtain ⟨A0, F, s0, r0, h⟩ := h
  have hb := h.bind.bind
  cases hE : evI .seq (fun s => (f s).bind fun x s1 => .ok [opd x] s1) s0 with
  | bad => rw [hE] at h; exact h.elim
  | ex c s2 =>
    -- an exception: the expression's own
    have hf := evI_seq_ex hE
    rw [hE] at h
    refine (pi_list (tg := tg) he).run pins s σ H P I ⟨A0, F, s0, r0, ?_⟩
    rw [hf]
    exact h
  | ok q s2 =>
    obtain ⟨items, lk⟩ := q
    obtain ⟨x, s1, d, hf, hl, hi⟩ := evI_seq hE
    rw [hE] at h
    have use : ∀ A1 H1, Ext A0 F A1 → KeepE s0 s1 σ → R X.K A1 F s1 σ H1 → ∀ v, RV X.K A1 F s1 σ H1 v x → ∃ A1', Ext A0 F A1' ∧ Same A1 A1' ∧ Locked X.K A1' F s1 s2 σ H1 v d lk ∧ ∀ J, WalkOk X.K A1' s2 σ J items lk → P J H1 := fun A1 H1 e1 k1 r1 v rv => by
      obtain ⟨A1', e1', r1', rv'⟩ := rv.opd r1
      have L := lock_ok r1' rv' hl
      exact ⟨A1', e1.trans e1', e1'.same, L, fun J w => h A1' H1 (e1.trans e1') (k1.trans L.kp) L.r J (lkB_of k1 L.old) w⟩
    cases d with
    | lst ds =>
      cases hi
      refine (pi_list (tg := tg) he).run pins s σ H P I ⟨A0, F, s0, r0, ?_⟩
      rw [hf]
      intro A1 H1 e1 k1 r1 v rv
      obtain ⟨A1', e2, _, L, m⟩ := use A1 H1 e1 k1 r1 v rv
      obtain ⟨a, vs, rfl, h1, _⟩ := (L.rd A1' F s2 σ H1 L.r (Same.refl _) fun p _ => ⟨rfl, rfl⟩).lst L.r.zh
      exact ⟨a, rfl, ⟨vs, .inl (.inl h1)⟩, m _ (walk_lst L)⟩
    | tup ds =>
      cases hi
      refine (pi_tup (tg := tg) he).run pins s σ H P I ⟨A0, F, s0, r0, ?_⟩
      rw [hf]
      intro A1 H1 e1 k1 r1 v rv
      obtain ⟨A1', e2, _, L, m⟩ := use A1 H1 e1 k1 r1 v rv
      obtain ⟨a, vs, e3, h1, _⟩ := (L.rd A1' F s2 σ H1 L.r (Same.refl _) fun p _ => ⟨rfl, rfl⟩).tup L.r.zh
      subst e3
      exact ⟨a, rfl, ⟨vs, h1⟩, m _ (walk_tup L)⟩
    | str z =>
      cases hi
      refine (pi_str (tg := tg) he).run pins s σ H P I ⟨A0, F, s0, r0, ?_⟩
      rw [hf]
      intro A1 H1 e1 k1 r1 v rv
      obtain ⟨A1', e2, _, L, m⟩ := use A1 H1 e1 k1 r1 v rv
      obtain ⟨e3, o3⟩ := (L.rd A1' F s2 σ H1 L.r (Same.refl _) fun p _ => ⟨rfl, rfl⟩).str
      exact ⟨_, e3, m _ (walk_str o3 L.lok)⟩
    | non => cases hi
    | bl _ => cases hi
    | int _ => cases hi
    | scr _ => cases hi
theorem RVs.opd_eq {A : Hp} {K : PySem.W.Frag} {σ : List (Option V)} {r : Rv} {rs : List Rv} {vs : List V} (h : RVs K A σ (r :: rs) vs) : ∃ v ws, vs = v :: ws ∧ RVs K A σ rs ws ∧ opd r = r ∧ ∀ (F : Hp) (s : S) (H : Hp), RV K A F s σ H v r := by
  cases h with
  | v h t => exact ⟨_, _, rfl, t, rfl, fun F s H => h⟩
  | b h t => exact ⟨_, _, rfl, t, rfl, fun F s H => h⟩
theorem RVs.int {A : Hp} {K : PySem.W.Frag} {σ : List (Option V)} {i : Int} {rs : List Rv} {vs : List V} (h : RVs K A σ (.v (.int i) :: rs) vs) : ∃ ws, vs = .int i :: ws ∧ RVs K A σ rs ws := by
  cases h with | v h t => cases h; exact ⟨_, rfl, t⟩
theorem RVs.nil' {A : Hp} {K : PySem.W.Frag} {σ : List (Option V)} {vs : List V} (h : RVs K A σ [] vs) : vs = [] := by cases h; rfl
theorem inR_iff {i : Int} (h : inR i = true) : -(2 ^ 62) ≤ i ∧ i < 2 ^ 62 := by
  have e : (2 ^ 62 : Int) = 4611686018427387904 := by decide
  simp only [inR, decide_eq_true_eq] at h
  rw [e]; omega
theorem pi_rng1 (hg : Gl X "range") (hm : X.mg "range" = none) (ha : SA X W ca [a] g) (hs : starEach [a] X.env = [(false, eval a X.env)]) : PI X tg (.Call (.Name "range" p) [a] [] pos) (tI X.K W ca (evI .rng1 g)) := by
  refine ⟨fun pins s σ H P I ⟨A0, F, s0, r0, h⟩ => (pi_range1 (tg := tg) hg hm ha hs).run pins s σ H P I ⟨A0, F, s0, r0, h.bind.mono fun rs A1 s1 H1 e1 k1 r1 h1 vs rvs => ?_⟩⟩
  dsimp only [itK, itRng1] at h1
  split at h1
  · split at h1
    · rename_i n hn
      obtain ⟨ws, rfl, t⟩ := rvs.int
      have := t.nil'
      subst this
      obtain ⟨b1, b2⟩ := inR_iff hn
      have w := walk_rng (K := X.K) (A1 := A1) (s' := s1) (σ := σ) (lo := 0) (n := n.toNat) (lk := []) lok_nil
      refine ⟨n, rfl, b1, b2, h1.now r1 (Itr 0 n.toNat) lkB_nil ?_⟩
      have e : ((List.range n.toNat).map fun (k : Nat) => D.int (0 + (k : Int))) = (List.range n.toNat).map fun (k : Nat) => D.int (k : Int) := by
        refine List.map_congr_left fun k _ => ?_
        rw [Int.zero_add]
      rw [e] at w
      exact w
    · exact h1.elim
  · exact h1.elim
theorem pi_rng2 (hg : Gl X "range") (hm : X.mg "range" = none) (ha : SA X W ca [a, b] g) (hs : starEach [a, b] X.env = [(false, eval a X.env), (false, eval b X.env)]) (hs2 : starEach [b] X.env = [(false, eval b X.env)]) :
    PI X tg (.Call (.Name "range" p) [a, b] [] pos) (tI X.K W ca (evI .rng2 g)) := by
  refine ⟨fun pins s σ H P I ⟨A0, F, s0, r0, h⟩ => (pi_range2 (tg := tg) hg hm ha hs hs2).run pins s σ H P I ⟨A0, F, s0, r0, h.bind.mono fun rs A1 s1 H1 e1 k1 r1 h1 vs rvs => ?_⟩⟩
  dsimp only [itK, itRng2] at h1
  split at h1
  · split at h1
    · rename_i i j hn
      rw [Bool.and_eq_true] at hn
      obtain ⟨ws, rfl, t⟩ := rvs.int
      obtain ⟨ws2, rfl, t2⟩ := t.int
      have := t2.nil'
      subst this
      obtain ⟨b1, b2⟩ := inR_iff hn.1
      obtain ⟨b3, b4⟩ := inR_iff hn.2
      exact ⟨i, j, rfl, ⟨b1, b2, b3, b4⟩, h1.now r1 _ lkB_nil (walk_rng lok_nil)⟩
    · exact h1.elim
  · exact h1.elim
theorem rgC_of {i j c : Int} (h1 : inR i = true) (h2 : inR j = true) (h3 : c ≠ 0) (h4 : c.natAbs < 1000000000) : RgC i j c (rgN i j c) := by
  have e62 : (2 ^ 62 : Int) = 4611686018427387904 := by decide
  have e63 : (2 ^ 63 : Int) = 9223372036854775808 := by decide
  obtain ⟨b1, b2⟩ := inR_iff h1
  obtain ⟨b3, b4⟩ := inR_iff h2
  rw [e62] at b1 b2 b3 b4
  have sz : Builtin.Range.rangeSize i j c = (rgN i j c : Int) ∧ Builtin.Range.rangeSize i j c ≤ 9223372036854775807 := by
    unfold Builtin.Range.rangeSize rgN
    by_cases hc : c > 0
    · rw [if_pos hc]
      split
      · have h5 : 0 ≤ (j - i - 1) / c := Int.ediv_nonneg (by omega) (by omega)
        have h6 : (j - i - 1) / c ≤ j - i - 1 := Int.ediv_le_self _ (by omega)
        omega
      · simp
    · rw [if_neg hc]
      split
      · have h5 : 0 ≤ (i - j - 1) / (-c) := Int.ediv_nonneg (by omega) (by omega)
        have h6 : (i - j - 1) / (-c) ≤ i - j - 1 := Int.ediv_le_self _ (by omega)
        omega
      · simp
  have szp : 0 ≤ Builtin.Range.rangeSize i j c := by rw [sz.1]; omega
  refine ⟨h3, by omega, ?_, sz.1⟩
  unfold Builtin.Range.small
  simp only [Builtin.Range.rangeFitsLong, e63, Bool.and_eq_true, Bool.or_eq_true, decide_eq_true_eq]
  have := sz.2
  by_cases hc : c > 0
  · rw [if_pos hc]
    simp only [Bool.and_eq_true, decide_eq_true_eq]
    omega
  · rw [if_neg hc]
    simp only [Bool.and_eq_true, decide_eq_true_eq]
    omega
theorem pi_rng3 (hg : Gl X "range") (hm : X.mg "range" = none) (ha : SA X W ca [a, b, c] g) (hs : starEach [a, b, c] X.env = (false, eval a X.env) :: starEach [b, c] X.env) (hpl : (backTo pos (starEach [b, c] X.env)).any (·.1) = false) :
    PI X tg (.Call (.Name "range" p) [a, b, c] [] pos) (tI X.K W ca (evI .rng3 g)) := by
  refine ⟨fun pins s σ H P I ⟨A0, F, s0, r0, h⟩ => (pi_range3 (tg := tg) hg hm ha hs hpl).run pins s σ H P I ⟨A0, F, s0, r0, h.bind.mono fun rs A1 s1 H1 e1 k1 r1 h1 vs rvs => ?_⟩⟩
  dsimp only [itK, itRng3] at h1
  split at h1
  · split at h1
    · rename_i i j c hn
      simp only [Bool.and_eq_true, decide_eq_true_eq, bne_iff_ne] at hn
      obtain ⟨ws, rfl, t⟩ := rvs.int
      obtain ⟨ws2, rfl, t2⟩ := t.int
      obtain ⟨ws3, rfl, t3⟩ := t2.int
      have := t3.nil'
      subst this
      exact ⟨i, j, c, _, rfl, rgC_of hn.1.1.1 hn.1.1.2 hn.1.2 hn.2, h1.now r1 _ lkB_nil (walk_rngC lok_nil)⟩
    · exact h1.elim
  · exact h1.elim
theorem pi_enm {elts : List Expr} {kk : Nat} {tpos : Pos} (hg : Gl X "enumerate") (hm : X.mg "enumerate" = none) (ha : SA X W ca [a] g) (hs : starEach [a] X.env = [(false, eval a X.env)]) :
    PI X (.Tuple elts kk tpos) (.Call (.Name "enumerate" p) [a] [] pos) (tI X.K W ca (evI .enm g)) := by
  refine ⟨fun pins s σ H P I ⟨A0, F, s0, r0, h⟩ => (pi_enum hg hm ha hs).run pins s σ H P I ⟨A0, F, s0, r0, h.bind.mono fun rs A1 s1 H1 e1 k1 r1 h1 vs rvs => ?_⟩⟩
  dsimp only [itK, itEnm] at h1
  split at h1
  · rename_i r
    obtain ⟨v, ws, rfl, t, eo, rv⟩ := rvs.opd_eq
    have := t.nil'
    subst this
    cases hl : lockO r s1 with
    | bad => rw [hl] at h1; exact h1.elim
    | ex c s2 => exfalso; cases r with
      | v d => cases hl
      | o d => cases hl
      | b i => simp only [lockO] at hl; split at hl <;> cases hl
    | ok q s2 =>
      obtain ⟨d, lk⟩ := q
      rw [hl] at h1
      have L := lock_ok (r := r) r1 (by rw [eo]; exact rv F s1 H1) (by rw [eo]; exact hl)
      cases d with
      | lst ds =>
        obtain ⟨a, us, e, h3, _⟩ := (L.rd A1 F s2 σ H1 L.r (Same.refl _) fun p _ => ⟨rfl, rfl⟩).lst L.r.zh
        subst e
        exact ⟨a, us, rfl, .inl (.inl h3), h1 A1 H1 .refl L.kp L.r _ (lkB_of k1 L.old) (walk_enum L)⟩
      | _ => exact h1.elim
  · exact h1.elim
theorem pi_zp {elts : List Expr} {kk : Nat} {tpos : Pos} (hg : Gl X "zip") (hm : X.mg "zip" = none) (ha : SA X W ca [a, b] g) (hs : starEach [a, b] X.env = (false, eval a X.env) :: starEach [b] X.env) (hpl : (backTo pos (starEach [b] X.env)).any (·.1) = false) :
    PI X (.Tuple elts kk tpos) (.Call (.Name "zip" p) [a, b] [] pos) (tI X.K W ca (evI .zip g)) := by
  refine ⟨fun pins s σ H P I ⟨A0, F, s0, r0, h⟩ => (RZ.pi_zipA hg hm ha hs hpl).run pins s σ H P I ⟨A0, F, s0, r0, h.bind.mono fun rs A1 s1 H1 e1 k1 r1 h1 vs rvs => ?_⟩⟩
  dsimp only [itK, itZip] at h1
  split at h1
  · rename_i r r'
    obtain ⟨v, ws, rfl, t, eo, rv⟩ := rvs.opd_eq
    obtain ⟨v', ws2, rfl, t2, eo', rv'⟩ := t.opd_eq
    have := t2.nil'
    subst this
    have nox : ∀ (r : Rv) (s1 : S) c s2, lockO r s1 ≠ .ex c s2 := fun r s1 c s2 hl => by
      cases r with
      | v d => cases hl
      | o d => cases hl
      | b i => simp only [lockO] at hl; split at hl <;> cases hl
    cases hl : lockO r s1 with
    | bad => rw [hl] at h1; exact h1.elim
    | ex c s2 => exact absurd hl (nox _ _ _ _)
    | ok q s2 =>
      obtain ⟨d, lk⟩ := q
      rw [hl] at h1
      have L := lock_ok (r := r) r1 (by rw [eo]; exact rv F s1 H1) (by rw [eo]; exact hl)
      dsimp only [Ro.bind] at h1
      cases hl' : lockO r' s2 with
      | bad => rw [hl'] at h1; exact h1.elim
      | ex c s3 => exact absurd hl' (nox _ _ _ _)
      | ok q' s3 =>
        obtain ⟨d', lk'⟩ := q'
        rw [hl'] at h1
        have L' := lock_ok (r := r') L.r (by rw [eo']; exact rv' F s2 H1) (by rw [eo']; exact hl')
        have keep : ∀ p ∈ lk, s3.e[p.1]? = s2.e[p.1]? := fun p hp => by
          obtain ⟨l, ds, h5, _⟩ := L.lok p hp
          obtain ⟨_, y, h6, h7⟩ := L'.kp p.1 _ h5 rfl
          cases h7
          rw [h5, h6]
        have lkb : LkB s0 (lk ++ lk') := fun p hp => by
          rcases List.mem_append.mp hp with hp | hp
          · exact lkB_of k1 L.old p hp
          · exact lkB_of (k1.trans L.kp) L'.old p hp
        dsimp only at h1
        split at h1
        · rename_i ds es
          obtain ⟨a, us, e, h3, _⟩ := (L.rd A1 F s2 σ H1 L.r (Same.refl _) fun p _ => ⟨rfl, rfl⟩).lst L.r.zh
          obtain ⟨a', us', e', h3', _⟩ := (L'.rd A1 F s3 σ H1 L'.r (Same.refl _) fun p _ => ⟨rfl, rfl⟩).lst L'.r.zh
          subst e e'
          exact ⟨a, a', us, us', rfl, .inl ⟨.inl (.inl h3), .inl (.inl h3'), h1 A1 H1 .refl (L.kp.trans L'.kp) L'.r _ lkb (walk_zip L L' keep)⟩⟩
        · rename_i ds es
          obtain ⟨a, us, e, h3, _⟩ := (L.rd A1 F s2 σ H1 L.r (Same.refl _) fun p _ => ⟨rfl, rfl⟩).tup L.r.zh
          obtain ⟨a', us', e', h3', _⟩ := (L'.rd A1 F s3 σ H1 L'.r (Same.refl _) fun p _ => ⟨rfl, rfl⟩).tup L'.r.zh
          subst e e'
          exact ⟨a, a', us, us', rfl, .inr ⟨h3, h3', h1 A1 H1 .refl (L.kp.trans L'.kp) L'.r _ lkb (walk_zipT L L' keep)⟩⟩
        · exact h1.elim
  · exact h1.elim
end
end Z

/-! Z: built-ins, methods, targets, comprehensions. -/
namespace Z
open PySem PySem.Spec PyProof.Rows L2

/-! ### built-ins -/
def bNm : Blt → Str
  | .len => "len" | .list => "list" | .tuple => "tuple" | .str => "str" | .int => "int" | .abs => "abs" | .min2 => "min" | .max2 => "max" | .sum => "sum" | .sorted => "sorted" | .all => "all" | .any => "any"
section
variable {X : Cx} {W : WX} {ca : Nat → Value} {a b c e o : Expr} {es : List Expr} {fa fb fc : S → Ro Rv} {g : S → Ro (List Rv)} {pos p : Pos}
theorem se_blt (f : Blt) (hc : X.calm = true) (hg : Gl X (bNm f)) (hm : X.mg (bNm f) = none) (ha : SA X W ca (e :: es) g)
    (he : starEach (e :: es) X.env = (false, eval e X.env) :: starEach es X.env) (hpl : (backTo pos (starEach es X.env)).any (·.1) = false) : SE X W ca (.Call (.Name (bNm f) p) (e :: es) [] pos) (eBlt f g) := by
  have h : PE X (.Call (.Name (bNm f) p) (e :: es) [] pos) (tCB (rBlt X.K f) (tA X.K W ca g)) := by
    have k := blt_any (X := X) hc f
    cases f <;> first
      | exact pe_callB k hg hm (by decide +kernel) ha (by decide +kernel) (by decide +kernel) he hpl
      | exact pe_callTy k hg hm (by decide +kernel) ha (by decide +kernel) (by decide +kernel) he hpl
  exact PE.imp h fun σ H Q ⟨A0, F, s, r0, h⟩ => blt_out r0 h
/-! ### methods -/
def mNm : Met → Str
  | .append => "append" | .pop => "pop" | .popAt => "pop" | .index => "index" | .reverse => "reverse" | .clear => "clear" | .insert => "insert" | .find1 => "find" | .swith => "startswith" | .ewith => "endswith" | .join => "join" | .find2 => "find" | .rfind => "rfind" | .count => "count" | .split => "split"
theorem m_plain (m : Met) : PlainAttrs (mTy m) := by
  cases m <;> first | exact PySem.F.plainAttrs_list | exact PySem.F.plainAttrs_str
theorem m_slot (m : Met) : PySem.Slot (mTy m) (mNm m) (mid m) := by
  cases m <;> first
    | exact PySem.F.slot_list_append | exact PySem.F.slot_list_reverse | exact PySem.F.slot_list_clear | exact PySem.F.slot_list_insert | exact PySem.F.slot_str_startswith | exact PySem.F.slot_str_endswith | exact PySem.F.slot_list_pop | exact PySem.F.slot_list_index | exact PySem.F.slot_str_join | exact PySem.F.slot_str_find | exact PySem.F.slot_str_rfind | exact PySem.F.slot_str_count | exact PySem.F.slot_str_split
theorem m_type (m : Met) : typeOf (.builtin (mid m)) = pure (.type "method_descriptor") := by
  cases m <;> (show builtinType _ = _; rw [builtinType_eq_fast]; kernel_rfl)
theorem se_met (m : Met) {gD : S → Ro (List D)} {apos : Pos} (ho : SE X W ca o fa) (ha : SF X W ca (e :: es) gD) (hbase : attributeBase o (mNm m) X.env (eval o X.env) = eval o X.env)
    (hfew : ((backTo pos (starEach (e :: es) X.env)).all (fun x => !x.1) && (backToKw pos (keywordEach [] X.env)).all (fun x => x.1.isSome)
      && decide ((e :: es).length + ([] : List Keyword).length + (if ([] : List Keyword).isEmpty then 0 else 1) < 30)) = true)
    (hline : (apos.endLine == pos.line) = true) (hs : starEach (e :: es) X.env = (false, eval e X.env) :: starEach es X.env) (hplain : (backTo pos (starEach es X.env)).any (·.1) = false) :
    SE X W ca (.Call (.Attribute o (mNm m) apos) (e :: es) [] pos) (eMet m fa gD) :=
  PE.imp (pe_bm (m_plain m) (m_slot m) (m_type m) (met_any m) ho ha hbase hfew hline hs hplain) fun σ H Q ⟨A0, F, s, r0, h⟩ => met_out r0 h
theorem se_joi {g : S → Ro (List Rv)} {apos : Pos} (ho : SE X W ca o fa) (ha : SA X W ca (e :: es) g) (hbase : attributeBase o "join" X.env (eval o X.env) = eval o X.env)
    (hfew : ((backTo pos (starEach (e :: es) X.env)).all (fun x => !x.1) && (backToKw pos (keywordEach [] X.env)).all (fun x => x.1.isSome)
      && decide ((e :: es).length + ([] : List Keyword).length + (if ([] : List Keyword).isEmpty then 0 else 1) < 30)) = true)
    (hline : (apos.endLine == pos.line) = true) (hs : starEach (e :: es) X.env = (false, eval e X.env) :: starEach es X.env) (hplain : (backTo pos (starEach es X.env)).any (·.1) = false) :
    SE X W ca (.Call (.Attribute o "join" apos) (e :: es) [] pos) (eJoi fa g) :=
  PE.imp (pe_bm PySem.F.plainAttrs_str PySem.F.slot_str_join (m_type .join) joi_any ho ha hbase hfew hline hs hplain) fun σ H Q ⟨A0, F, s, r0, h⟩ => joi_out r0 h
theorem tBM_nil {K : PySem.W.Frag} {T : String} {r : V → List V → Hp → VK → Prop} {to : TE} {σ : L2.St} {H : Hp} {Q : VK} {A : L2.St → Hp → (List V → Hp → Prop) → Prop} (hm : ∀ σ H Q, A σ H Q → Q [] H)
    (mono : ∀ {σ H} {Q Q' : VK}, to σ H Q → (∀ v H', Q v H' → Q' v H') → to σ H Q') (h : tBM K T r to A σ H Q) : tBM0 K T r to σ H Q := mono h fun v H' ⟨q1, q2⟩ => ⟨q1, hm _ _ _ q2⟩
theorem tE_mono {K : PySem.W.Frag} {f : S → Ro Rv} {σ : L2.St} {H : Hp} {Q Q' : VK} (h : tE K W ca f σ H Q) (m : ∀ v H', Q v H' → Q' v H') : tE K W ca f σ H Q' := by
  obtain ⟨A0, F, s, r0, h⟩ := h
  exact ⟨A0, F, s, r0, h.mono fun r A1 s1 H1 _ _ _ q v rv => m v H1 (q v rv)⟩
theorem se_met0 (m : Met) {apos : Pos} (ho : SE X W ca o fa) (hbase : attributeBase o (mNm m) X.env (eval o X.env) = eval o X.env) (hline : (apos.endLine == pos.line) = true) :
    SE X W ca (.Call (.Attribute o (mNm m) apos) [] [] pos) (eMet m fa fun s => .ok [] s) :=
  PE.imp (pe_bm0 (m_plain m) (m_slot m) (m_type m) (met_any m) ho hbase hline) fun σ H Q ⟨A0, F, s, r0, h⟩ =>
    tBM_nil (A := tAF X.K W ca fun s => .ok [] s) (fun σ H Q ⟨A0, F, s, r0, h⟩ => h.now r0 [] .nil) tE_mono (met_out r0 h)
end

/-! ### targets -/
mutual
def tgV : Tg → List Nat
  | .var i => [i]
  | .tup ts => tgVs ts
def tgVs : Tgs → List Nat
  | .nil => []
  | .cons t r => tgV t ++ tgVs r
end
section
variable (K : PySem.W.Frag)
def tG (t : Tg) : TG := fun v σ H Q => ∃ A0 F s d s1, R K A0 F s σ H ∧ Rep K A0 d v ∧ asgT t d s = some s1 ∧
  ∀ σ1, R K A0 F s1 σ1 H → (∀ i, i ∉ tgV t → σ1[i]? = σ[i]? ∧ s1.e[i]? = s.e[i]?) → Keep s σ s1 σ1 → Q σ1 H
def tGs (t : Tgs) : TGs := fun vs σ H Q => ∃ A0 F s ds s1, R K A0 F s σ H ∧ Reps K A0 ds vs ∧ asgTs t ds s = some s1 ∧
  ∀ σ1, R K A0 F s1 σ1 H → (∀ i, i ∉ tgVs t → σ1[i]? = σ[i]? ∧ s1.e[i]? = s.e[i]?) → Keep s σ s1 σ1 → Q σ1 H
end
theorem putS_some {i : Nat} {x : Slot} {s s1 : S} (h : putS i x s = some s1) : s1 = ⟨s.e.set i x⟩ ∧ ∃ y, s.e[i]? = some y ∧ isPin y = false := by
  unfold putS at h
  split at h <;> first | (cases h; done) | (cases h; exact ⟨rfl, _, by assumption, rfl⟩)
theorem Keep.put {s : S} {σ : List (Option V)} {i : Nat} {x y : Slot} {o : Option V} (h : s.e[i]? = some y) (p : isPin y = false) : Keep s σ ⟨s.e.set i x⟩ (σ.set i o) := fun j z hz pz => by
  have e : i ≠ j := fun e => by subst e; rw [h] at hz; cases hz; rw [p] at pz; cases pz
  exact ⟨by rw [List.getElem?_set_ne e], z, by rw [List.getElem?_set_ne e]; exact hz, .refl⟩
section
variable {X : Cx} {W : WX} {ca : Nat → Value} {pos : Pos}
theorem PG.imp {tg : Expr} {t t' : TG} (h : PG X tg t) (m : ∀ v σ H Q, t' v σ H Q → t v σ H Q) : PG X tg t' := ⟨fun pins s σ H v u Q I r q => h.run pins s σ H v u Q I r (m v σ H Q q)⟩
theorem PGs.imp {tg : List Expr} {t t' : TGs} (h : PGs X tg t) (m : ∀ v σ H Q, t' v σ H Q → t v σ H Q) : PGs X tg t' := ⟨fun pins s σ H v u Q I r q => h.run pins s σ H v u Q I r (m v σ H Q q)⟩
theorem PG.or {tg : Expr} {t t' : TG} (h : PG X tg t) (h' : PG X tg t') : PG X tg fun v σ H Q => t v σ H Q ∨ t' v σ H Q :=
  ⟨fun pins s σ H v u Q I r q => q.elim (h.run pins s σ H v u Q I r) (h'.run pins s σ H v u Q I r)⟩
theorem sg_var {i : Nat} {x : Str} (hN : X.N.Nodup) (hi : X.N[i]? = some x) (hx : Loc X.env.scope x) (hf : X.fn x = true ∨ X.env.scope.names.lookup x = some .local) : PG X (.Name x pos) (tG X.K (.var i)) :=
  PG.imp (pg_name hN hi hx hf) fun v σ H Q ⟨A0, F, s, d, s1, r0, rp, h, m⟩ => by
    obtain ⟨rfl, y, hy, py⟩ := putS_some h
    refine m _ (r0.put (.sh rp) fun q => by cases q) (fun j hj => ?_) (.put hy py)
    have e : i ≠ j := fun e => hj (by subst e; exact List.mem_cons_self)
    exact ⟨List.getElem?_set_ne e, List.getElem?_set_ne e⟩
theorem sg_nil : PGs X [] (tGs X.K .nil) := PGs.imp pgs_nil fun vs σ H Q ⟨A0, F, s, ds, s1, r0, rp, h, m⟩ => by
  cases rp with
  | nil => cases h; exact ⟨rfl, m σ r0 (fun _ _ => ⟨rfl, rfl⟩) .refl⟩
  | cons _ _ => cases h
theorem sg_cons {e : Expr} {es : List Expr} {t : Tg} {ts : Tgs} (h1 : PG X e (tG X.K t)) (h2 : PGs X es (tGs X.K ts)) (hs : (assignEach (e :: es) X.env).map (·.2) = assign e X.env :: (assignEach es X.env).map (·.2)) : PGs X (e :: es) (tGs X.K (.cons t ts)) :=
  PGs.imp (pgs_cons h1 h2 hs) fun vs σ H Q ⟨A0, F, s, ds, s1, r0, rp, h, m⟩ => by
    cases rp with
    | nil => cases h
    | cons r t' =>
      obtain ⟨s2, h3, h4⟩ := Option.bind_eq_some_iff.mp h
      refine ⟨_, _, rfl, A0, F, s, _, s2, r0, r, h3, fun σ1 r1 e1 k1 => ⟨A0, F, s2, _, s1, r1, t', h4, fun σ2 r2 e2 k2 => m σ2 r2 (fun i hi => ?_) (k1.trans k2)⟩⟩
      have hi' : i ∉ tgV t ∧ i ∉ tgVs ts := by
        rw [tgVs, List.mem_append, not_or] at hi; exact hi
      exact ⟨(e2 i hi'.2).1.trans (e1 i hi'.1).1, (e2 i hi'.2).2.trans (e1 i hi'.1).2⟩
def tgN : Tgs → Nat
  | .nil => 0
  | .cons _ r => tgN r + 1
theorem asgTs_n : ∀ {ts : Tgs} {ds : List D} {s s1 : S}, asgTs ts ds s = some s1 → ds.length = tgN ts
  | .nil, [], _, _, _ => rfl
  | .nil, _ :: _, _, _, h => by cases h
  | .cons t ts, [], _, _, h => by cases h
  | .cons t ts, d :: ds, s, s1, h => by
    obtain ⟨s2, h3, h4⟩ := Option.bind_eq_some_iff.mp h
    exact congrArg (· + 1) (asgTs_n h4)
theorem sg_tup {es : List Expr} {k : Nat} {ts : Tgs} (hc : X.calm = true) (h : PGs X es (tGs X.K ts)) (hn : (assignEach es X.env).length = tgN ts) (hst : (assignEach es X.env).findIdx? (·.1) = none) : PG X (.Tuple es k pos) (tG X.K (.tup ts)) :=
  PG.imp (PG.or (pg_tup hc h hn hst) (pg_unl hc h hn hst)) fun v σ H Q ⟨A0, F, s, d, s1, r0, rp, h, m⟩ => by
    cases d with
    | tup ds =>
      cases rp with
      | tup sq rs => exact .inl ⟨_, _, rfl, seqT_mono r0.zh sq, by rw [← rs.length]; exact asgTs_n h, A0, F, s, ds, s1, r0, rs, h, m⟩
    | lst ds =>
      cases rp with
      | lst sq rs => exact .inr ⟨_, _, rfl, .inl (.inl (r0.zh _ _ sq)), by rw [← rs.length]; exact asgTs_n h, A0, F, s, ds, s1, r0, rs, h, m⟩
    | _ => cases h
end
end Z

/-! Z: isinstance. -/
namespace Z
open PySem PySem.Spec PyProof.Rows L2
def tyN : Ty → String
  | .int => "int" | .bool => "bool" | .str => "str" | .tuple => "tuple" | .list => "list"
def dN : D → String
  | .non => "NoneType" | .bl _ => "bool" | .int _ => "int" | .str _ => "str" | .tup _ => "tuple" | .lst _ => "list" | .scr _ => "list"
theorem kit_all : ∀ (t : Ty), kitB "NoneType" (tyN t) = some false ∧ kitB "bool" (tyN t) = some (match t with | .int => true | .bool => true | _ => false) ∧ kitB "int" (tyN t) = some (match t with | .int => true | _ => false) ∧
    kitB "str" (tyN t) = some (match t with | .str => true | _ => false) ∧ kitB "tuple" (tyN t) = some (match t with | .tuple => true | _ => false) ∧ kitB "list" (tyN t) = some (match t with | .list => true | _ => false) := fun t => by
  cases t <;> decide +kernel
theorem kit_isTy (d : D) (t : Ty) (hs : ∀ ns, d ≠ .scr ns) : kitB (dN d) (tyN t) = some (isTy d t) := by
  obtain ⟨h1, h2, h3, h4, h5, h6⟩ := kit_all t
  cases d with
  | non => rw [show dN .non = "NoneType" from rfl, h1]; cases t <;> rfl
  | bl b => rw [show dN (.bl b) = "bool" from rfl, h2]; cases t <;> rfl
  | int i => rw [show dN (.int i) = "int" from rfl, h3]; cases t <;> rfl
  | str s => rw [show dN (.str s) = "str" from rfl, h4]; cases t <;> rfl
  | tup ds => rw [show dN (.tup ds) = "tuple" from rfl, h5]; cases t <;> rfl
  | lst ds => rw [show dN (.lst ds) = "list" from rfl, h6]; cases t <;> rfl
  | scr ns => exact absurd rfl (hs ns)
theorem Rd.ty {K : PySem.W.Frag} {A0 H : Hp} {d : D} {v : V} (z : Same A0 H) (h : Rd K A0 H d v) (hs : ∀ ns, d ≠ .scr ns) : TyX K H v (.type (dN d)) := by
  cases d with
  | non => rw [h.non]; exact .base .non
  | bl b => rw [h.bl]; exact .base (.bl b)
  | int i => rw [h.int]; exact .base (.int i)
  | str s => rw [h.str.1]; exact .base (.str _)
  | tup ds =>
    obtain ⟨a, vs, rfl, h1, _⟩ := h.tup z
    rcases h1 with (h1 | ⟨o, h1⟩) | ⟨o, its, n, h1, h2, _⟩
    · exact .base (.tup h1)
    · exact .fTuple h1
    · exact .kTuple h1 h2
  | lst ds =>
    obtain ⟨a, vs, rfl, h1, _⟩ := h.lst z
    exact .base (.lst h1)
  | scr ns => exact absurd rfl (hs ns)
section
variable {X : Cx} {W : WX} {ca : Nat → Value} {a : Expr} {fa : S → Ro Rv} {pos p pt : Pos}
theorem se_isi (t : Ty) {x : Str} (hx : x = tyN t) (hg : Gl X "isinstance") (hm : X.mg "isinstance" = none) (hgt : Gl X x) (hmt : X.mg x = none) (ha : SE X W ca a fa)
    (he : starEach [a, .Name x pt] X.env = (false, eval a X.env) :: starEach [.Name x pt] X.env) (hpl : (backTo pos (starEach [.Name x pt] X.env)).any (·.1) = false) : SE X W ca (.Call (.Name "isinstance" p) [a, .Name x pt] [] pos) (eIsi [t] fa) := by
  have hb : bootBuiltins x = some (.type (tyN t)) := by subst hx; cases t <;> decide +kernel
  have hn : x ≠ "__name__" := by subst hx; cases t <;> decide +kernel
  have hd : (x == ("__debug__" : Str)) = false := by subst hx; cases t <;> decide +kernel
  have h := pe_callB (p := p) (pos := pos) (call_isi (X := X)) hg hm (by decide +kernel) (pa_cons ha (pa_cons (pe_bltn (pos := pt) (v := .ty (tyN t)) hgt hmt hb rfl hn hd) pa_nil) he) (by decide +kernel) (by decide +kernel) he hpl
  refine PE.imp h fun σ H Q ⟨A0, F, s, r0, h⟩ => ⟨A0, F, s, r0, h.bind.mono fun ra A1 s1 H1 e1 k1 r1 h1 v rv => ?_⟩
  obtain ⟨r, hr, h2⟩ := h1.ofO
  obtain ⟨d, hd, hr⟩ := Option.bind_eq_some_iff.mp hr
  have hs : ∀ ns, d ≠ .scr ns := fun ns e => by subst e; cases hr
  have hr' : r = .v (.bl (isTy d t)) := by
    cases d <;> first | (cases hr; done) | (cases hr; simp)
  subst hr'
  exact ⟨v, .ty (tyN t), _, _, isTy d t, rfl, .ty _, (r1.cnt hd rv).ty r1.zh hs, kit_ty (kit_isTy d t hs), h2.now r1 _ (.bl _)⟩
end
end Z

/-! Z: locks let go, comprehensions. -/
namespace Z
open PySem PySem.Spec PyProof.Rows L2

/-! ### locks let go -/
def ctn : Slot → Option (List D)
  | .ow ds => some ds
  | .le ds => some ds
  | .lk _ ds => some ds
  | _ => none
def LkC (lk : Lk) (s : S) : Prop := ∀ p ∈ lk, ∃ x ds, s.e[p.1]? = some x ∧ ctn x = some ds ∧ ctn p.2 = some ds
theorem LkOk.c {lk : Lk} {s : S} (h : LkOk lk s) : LkC lk s := fun p hp => by
  obtain ⟨l, ds, h1, h2⟩ := h p hp
  refine ⟨_, ds, h1, rfl, ?_⟩
  rcases h2 with h2 | h2 | ⟨l', h2⟩ <;> rw [h2] <;> rfl
theorem ctn_ow {x : Slot} {ds : List D} (h : ctn x = some ds) : isOw x = true := by cases x <;> first | (cases h; done) | rfl
section
variable {K : PySem.W.Frag} {A0 A1 A2 F F' H H1 H2 : Hp} {s s1 s2 : S} {σ σ2 : List (Option V)}
theorem RS.ctn {x y : Slot} {ds : List D} {o : Option V} (h : RS K A0 H x o) (hx : Z.ctn x = some ds) (hy : Z.ctn y = some ds) : RS K A0 H y o := by
  have : ∃ a vs, o = some (.ref a) ∧ H a = some (.lst vs) ∧ Reps K A0 ds vs := by
    cases h with
    | no => cases hx
    | sh _ => cases hx
    | lf _ => cases hx
    | ow h1 h2 => cases hx; exact ⟨_, _, rfl, h1, h2⟩
    | le h1 h2 => cases hx; exact ⟨_, _, rfl, h1, h2⟩
    | lk h1 h2 => cases hx; exact ⟨_, _, rfl, h1, h2⟩
  obtain ⟨a, vs, rfl, h1, h2⟩ := this
  cases y with
  | ow e => cases hy; exact .ow h1 h2
  | le e => cases hy; exact .le h1 h2
  | lk l e => cases hy; exact .lk h1 h2
  | _ => cases hy
theorem R.unlock : ∀ {lk : Lk} {s : S}, R K A0 F s σ H → LkC lk s → R K A0 F (unlock lk s) σ H
  | [], s, r, _ => r
  | (i, x) :: lk, s, r, h => by
    obtain ⟨y, ds, h1, h2, h3⟩ := h (i, x) List.mem_cons_self
    obtain ⟨a, vs, ds', q1, q2, q3, q4, q5⟩ := r.owns h1 (ctn_ow h2)
    refine R.unlock (lk := lk) (r.tell (i := i) (x := x) (fun o ho => ?_) (fun _ b hb => ?_)) fun p hp => ?_
    · obtain ⟨o', e1, e2⟩ := r.sl i y h1
      rw [ho] at e1; cases e1
      exact e2.ctn h2 h3
    · rw [q1] at hb; cases hb
      exact ⟨(r.out i a q2).1, (r.out i a q2).2, fun j hj hown => hj (r.sep j i a hown q2)⟩
    · obtain ⟨z, es, h4, h5, h6⟩ := h p (List.mem_cons_of_mem _ hp)
      by_cases e : i = p.1
      · rw [← e] at h4
        rw [h1] at h4; cases h4
        rw [h2] at h5; cases h5
        refine ⟨x, _, ?_, h3, h6⟩
        show (s.e.set i x)[p.1]? = some x
        rw [← e]
        exact List.getElem?_set_self (set_at h1)
      · exact ⟨z, es, by show (s.e.set i x)[p.1]? = _; rw [List.getElem?_set_ne e]; exact h4, h5, h6⟩
theorem unlock_get : ∀ {lk : Lk} {s : S} {i : Nat} {x : Slot}, s.e[i]? = some x → ((unlock lk s).e[i]? = some x ∧ ∀ p ∈ lk, p.1 ≠ i) ∨ ∃ p ∈ lk, p.1 = i ∧ (unlock lk s).e[i]? = some p.2
  | [], s, i, x, h => .inl ⟨h, fun p hp => absurd hp (by simp)⟩
  | (j, y) :: lk, s, i, x, h => by
    by_cases e : j = i
    · subst e
      have h1 : (⟨s.e.set j y⟩ : S).e[j]? = some y := List.getElem?_set_self (set_at h)
      rcases unlock_get (lk := lk) h1 with ⟨h2, h3⟩ | ⟨p, hp, h2, h3⟩
      · exact .inr ⟨(j, y), List.mem_cons_self, rfl, h2⟩
      · exact .inr ⟨p, List.mem_cons_of_mem _ hp, h2, h3⟩
    · have h1 : (⟨s.e.set j y⟩ : S).e[i]? = some x := (List.getElem?_set_ne e).trans h
      rcases unlock_get (lk := lk) h1 with ⟨h2, h3⟩ | ⟨p, hp, h2, h3⟩
      · exact .inl ⟨h2, fun p hp => by
          rcases List.mem_cons.mp hp with rfl | hp
          · exact e
          · exact h3 p hp⟩
      · exact .inr ⟨p, List.mem_cons_of_mem _ hp, h2, h3⟩
theorem Keep.unlock {lk : Lk} (k : Keep s σ s2 σ2) (b : LkB s lk) : Keep s σ (unlock lk s2) σ2 := fun i x hx px => by
  obtain ⟨h1, y, h2, h3⟩ := k i x hx px
  refine ⟨h1, ?_⟩
  rcases unlock_get (lk := lk) h2 with ⟨h4, _⟩ | ⟨p, hp, rfl, h4⟩
  · exact ⟨y, h4, h3⟩
  · exact ⟨_, h4, b p hp x hx px⟩
/-- what is locked stays as it is -/
theorem LkOk.stay {lk : Lk} (h : LkOk lk s1) (k : Keep s1 σ s2 σ2) : LkOk lk s2 ∧ ∀ p ∈ lk, s2.e[p.1]? = s1.e[p.1]? ∧ σ2[p.1]? = σ[p.1]? := by
  have : ∀ p ∈ lk, s2.e[p.1]? = s1.e[p.1]? ∧ σ2[p.1]? = σ[p.1]? := fun p hp => by
    obtain ⟨l, ds, h1, h2⟩ := h p hp
    obtain ⟨h3, y, h4, h5⟩ := k p.1 _ h1 rfl
    cases h5
    exact ⟨h4.trans h1.symm, h3⟩
  refine ⟨fun p hp => ?_, this⟩
  obtain ⟨l, ds, h1, h2⟩ := h p hp
  exact ⟨l, ds, (this p hp).1.trans h1, h2⟩
/-! ### own names of a block -/
theorem wipeS_out {s : S} {i : Nat} : ∀ {vs : List Nat}, i ∉ vs → (wipeS s vs).e[i]? = s.e[i]?
  | [], _ => rfl
  | v :: vs, h => by
    rw [List.mem_cons, not_or] at h
    show ((wipeS s vs).e.set v .no)[i]? = _
    rw [List.getElem?_set_ne (Ne.symm h.1), wipeS_out h.2]
theorem wipeS_in {s : S} {i : Nat} {x : Slot} : ∀ {vs : List Nat}, i ∈ vs → (wipeS s vs).e[i]? = some x → x = .no
  | v :: vs, h, e => by
    rcases getElem?_set_some (l := (wipeS s vs).e) (i := v) (x := .no) e with ⟨_, e2, _⟩ | ⟨n, e2⟩
    · exact e2
    · rcases List.mem_cons.mp h with h | h
      · exact absurd h.symm n
      · exact wipeS_in h e2
theorem wipeS_len {s : S} : ∀ {vs : List Nat}, (wipeS s vs).e.length = s.e.length
  | [] => rfl
  | v :: vs => by show ((wipeS s vs).e.set v .no).length = _; rw [List.length_set, wipeS_len]
theorem restS_out {s0 s : S} {i : Nat} : ∀ {vs : List Nat}, i ∉ vs → (restS s0 s vs).e[i]? = s.e[i]?
  | [], _ => rfl
  | v :: vs, h => by
    rw [List.mem_cons, not_or] at h
    show ((restS s0 s vs).e.set v _)[i]? = _
    rw [List.getElem?_set_ne (Ne.symm h.1), restS_out h.2]
theorem restS_in {s0 s : S} {i : Nat} {x : Slot} : ∀ {vs : List Nat}, i ∈ vs → (restS s0 s vs).e[i]? = some x → x = s0.e.getD i .no
  | v :: vs, h, e => by
    rcases getElem?_set_some (l := (restS s0 s vs).e) (i := v) (x := s0.e.getD v .no) e with ⟨e1, e2, _⟩ | ⟨n, e2⟩
    · rw [e2, e1]
    · rcases List.mem_cons.mp h with h | h
      · exact absurd h.symm n
      · exact restS_in h e2
theorem restS_len {s0 s : S} : ∀ {vs : List Nat}, (restS s0 s vs).e.length = s.e.length
  | [] => rfl
  | v :: vs => by show ((restS s0 s vs).e.set v _).length = _; rw [List.length_set, restS_len]
theorem wipe_in {σ : List (Option V)} {i : Nat} : ∀ {vs : List Nat}, i ∈ vs → i < σ.length → (wipe σ vs)[i]? = some none
  | v :: vs, h, hi => by
    show ((wipe σ vs).set v none)[i]? = _
    by_cases e : v = i
    · subst e; exact List.getElem?_set_self (by rw [wipe_length]; exact hi)
    · rw [List.getElem?_set_ne e]
      rcases List.mem_cons.mp h with h | h
      · exact absurd h.symm e
      · exact wipe_in h hi
theorem wipe_eq {vs : List Nat} (hl : σ2.length = σ.length) (h : ∀ i, i ∉ vs → σ2[i]? = σ[i]?) : wipe σ2 vs = wipe σ vs := by
  refine List.ext_getElem? fun i => ?_
  by_cases hi : i ∈ vs
  · by_cases hl' : i < σ.length
    · rw [wipe_in hi hl', wipe_in hi (by rw [hl]; exact hl')]
    · rw [List.getElem?_eq_none (by rw [wipe_length]; omega), List.getElem?_eq_none (by rw [wipe_length]; omega)]
  · rw [wipe_out hi, wipe_out hi, h i hi]
theorem R.wiped (r : R K A0 F s σ H) (vs : List Nat) : R K A0 F (wipeS s vs) (wipe σ vs) H := r.forget (by rw [wipeS_len, wipe_length]; exact r.len) fun i x e => by
  by_cases hi : i ∈ vs
  · exact .inl (wipeS_in hi e)
  · exact .inr ⟨by rw [wipeS_out hi] at e; exact e, wipe_out hi⟩
theorem freeS_at {vs : List Nat} (h : freeS s vs = true) {i : Nat} {x : Slot} (hi : i ∈ vs) (e : s.e[i]? = some x) : x = .no ∨ ∃ d, x = .sh d := by
  have := List.all_eq_true.mp h i hi
  rw [e] at this
  cases x with
  | no => exact .inl rfl
  | sh d => exact .inr ⟨d, rfl⟩
  | _ => cases this
theorem unlock_len : ∀ {lk : Lk} {s : S}, (unlock lk s).e.length = s.e.length
  | [], _ => rfl
  | (i, x) :: lk, s => by
    have := unlock_len (lk := lk) (s := ⟨s.e.set i x⟩)
    rw [List.length_set] at this
    exact this
theorem putS_len {i : Nat} {x : Slot} (h : putS i x s = some s1) : s1.e.length = s.e.length := by
  obtain ⟨rfl, _⟩ := putS_some h
  exact List.length_set
mutual
theorem asgT_len : ∀ {t : Tg} {d : D} {s s1 : S}, asgT t d s = some s1 → s1.e.length = s.e.length
  | .var i, d, s, s1, h => putS_len h
  | .tup ts, d, s, s1, h => by
    cases d with
    | tup ds => exact asgTs_len (show asgTs ts ds s = some s1 from h)
    | lst ds => exact asgTs_len (show asgTs ts ds s = some s1 from h)
    | _ => cases h
theorem asgTs_len : ∀ {ts : Tgs} {ds : List D} {s s1 : S}, asgTs ts ds s = some s1 → s1.e.length = s.e.length
  | .nil, [], _, _, h => by cases h; rfl
  | .nil, _ :: _, _, _, h => by cases h
  | .cons t ts, [], _, _, h => by cases h
  | .cons t ts, d :: ds, s, s1, h => by
    obtain ⟨s2, h3, h4⟩ := Option.bind_eq_some_iff.mp h
    exact (asgTs_len h4).trans (asgT_len h3)
end
end
end Z

/-! Z: comprehensions. -/
namespace Z
open PySem PySem.Spec PyProof.Rows L2

section
variable {K : PySem.W.Frag} {A0 A1 A2 F F' H H1 H2 : Hp} {s s1 s2 : S} {σ σ2 : List (Option V)} {vs : List Nat}
theorem R.restore (r1 : R K A1 F s1 σ H1) (fr : freeS s1 vs = true) (r2 : R K A2 F' s2 (wipe σ vs) H2) (e : Same A1 A2) (ff : Same F F') : R K A2 F (restS s1 s2 vs) σ H2 := by
  have hl : s2.e.length = σ.length := by have := r2.len; rw [wipe_length] at this; exact this
  have ow : ∀ i a, Own (restS s1 s2 vs) σ i a → Own s2 (wipe σ vs) i a := fun i a ⟨x, e1, p, q⟩ => by
    by_cases hi : i ∈ vs
    · have h1 := restS_in hi e1
      have hi' : i < s1.e.length := by
        have := set_at e1
        rw [restS_len, hl] at this
        rw [r1.len]; exact this
      have h2 : s1.e[i]? = some x := by
        rw [h1, List.getElem?_eq_getElem hi', List.getD_eq_getElem?_getD, List.getElem?_eq_getElem hi']; rfl
      rcases freeS_at fr hi h2 with rfl | ⟨d, rfl⟩ <;> cases p
    · exact ⟨x, by rw [restS_out hi] at e1; exact e1, p, by rw [wipe_out hi]; exact q⟩
  refine ⟨r2.zh, fun b o q => r2.fh _ _ (ff _ _ q), by rw [restS_len]; exact hl, fun i x e1 => ?_, fun i j a h1 h2 => r2.sep i j a (ow i a h1) (ow j a h2), fun i a h1 => ?_⟩
  · by_cases hi : i ∈ vs
    · have h1 := restS_in hi e1
      have hi' : i < s1.e.length := by
        have := set_at e1
        rw [restS_len, hl] at this
        rw [r1.len]; exact this
      have h2 : s1.e[i]? = some x := by
        rw [h1, List.getElem?_eq_getElem hi', List.getD_eq_getElem?_getD, List.getElem?_eq_getElem hi']; rfl
      obtain ⟨o, h3, h4⟩ := r1.sl i x h2
      refine ⟨o, h3, ?_⟩
      rcases freeS_at fr hi h2 with rfl | ⟨d, rfl⟩
      · exact .no _
      · cases h4 with | sh q => exact .sh (q.mono e)
    · rw [restS_out hi] at e1
      obtain ⟨o, h3, h4⟩ := r2.sl i x e1
      exact ⟨o, by rw [wipe_out hi] at h3; exact h3, h4⟩
  · obtain ⟨h2, h3⟩ := r2.out i a (ow i a h1)
    exact ⟨h2, ff.free h3⟩
theorem Keep.restore (fr : freeS s1 vs = true) (k : Keep (wipeS s1 vs) (wipe σ vs) s2 (wipe σ vs)) : Keep s1 σ (restS s1 s2 vs) σ := fun i x hx px => by
  have hi : i ∉ vs := fun hi => by rcases freeS_at fr hi hx with rfl | ⟨d, rfl⟩ <;> cases px
  obtain ⟨_, y, h1, h2⟩ := k i x (by rw [wipeS_out hi]; exact hx) px
  exact ⟨rfl, y, by rw [restS_out hi]; exact h1, h2⟩
/-- the new list stands in the frame -/
theorem R.frame (r : R K A0 F s σ H) {a : Addr} {o : HO} (h : H a = some o) (n : ∀ i, ¬ Own s σ i a) : R K A0 (upd F a o) s σ H := by
  refine ⟨r.zh, fun b q e => ?_, r.len, r.sl, r.sep, fun i b hb => ?_⟩
  · by_cases e1 : b = a
    · subst e1; rw [upd_same] at e; cases e; exact h
    · rw [upd_ne e1] at e; exact r.fh _ _ e
  · have e1 : b ≠ a := fun e => by subst e; exact n i hb
    rw [upd_ne e1]; exact r.out i b hb
/-- what stands in the frame is changed -/
theorem R.reframe {a : Addr} {o o' : HO} (r : R K A0 (upd F a o) s σ H) (z : A0 a = none) (f : F a = none) : R K A0 F s σ (upd H a o') ∧ ∀ i, ¬ Own s σ i a := by
  have n : ∀ i, ¬ Own s σ i a := fun i hi => by
    have := (r.out i a hi).2
    rw [upd_same] at this; cases this
  refine ⟨⟨fun b q e => ?_, fun b q e => ?_, r.len, fun i x e => ?_, r.sep, fun i b hb => ?_⟩, n⟩
  · rw [upd_ne (ne_of_none e z)]; exact r.zh _ _ e
  · have e1 := ne_of_none e f
    rw [upd_ne e1]; exact r.fh _ _ (by rw [upd_ne e1]; exact e)
  · obtain ⟨q, e2, rs⟩ := r.sl i x e
    refine ⟨q, e2, rs.mono (Same.refl _) fun b pb eb => ?_⟩
    subst eb
    exact upd_ne fun e => by subst e; exact n i ⟨x, ‹_›, pb, e2⟩
  · have e1 : b ≠ a := fun e => by subst e; exact n i hb
    obtain ⟨h1, h2⟩ := r.out i b hb
    rw [upd_ne e1] at h2
    exact ⟨h1, h2⟩
theorem same_updF {a : Addr} {o : HO} (f : F a = none) : Same F (upd F a o) := same_upd f
end
abbrev WF : WX := fun _ _ _ _ => False
section
variable {X : Cx} {W : WX} {ca : Nat → Value} {pos : Pos}
theorem pts_imp {ifs : List Expr} {t t' : TT} (h : PTs X ifs t) (m : ∀ σ H Q, t' σ H Q → t σ H Q) : PTs X ifs t' := ⟨fun pins s σ H Q I q => h.run pins s σ H Q I (m σ H Q q)⟩
theorem spts_nil {W : WX} : PTs X [] (tT X.K W ca (tst fun s => .ok (.v (.bl true)) s)) := pts_imp pts_nil fun σ H Q ⟨A0, F, s, r0, h⟩ => h.now r0
theorem lcL_step {t : Tg} {vs : List Nat} {fc : S → Ro Bool} {fe : S → Ro Rv} {d : D} {ds acc : List D} {s : S} :
    lcL t vs fc fe (d :: ds) acc s = match asgT t d s with
    | none => .bad
    | some s1 => match fc s1 with
      | .ok true s2 => match (fe s2).bind frz with
        | .ok x s3 => if acc.length < SZ then lcL t vs fc fe ds (acc ++ [x]) (wipeS s3 vs) else .bad
        | _ => .bad
      | .ok false s2 => lcL t vs fc fe ds acc (wipeS s2 vs)
      | _ => .bad := rfl
theorem lc_out {t : Tg} {vs : List Nat} {fi : S → Ro (List D × Lk)} {fc : S → Ro Bool} {fe : S → Ro Rv} {K : PySem.W.Frag} {σ : L2.St} {H : Hp} {Q : VK} (hv : ∀ i ∈ tgV t, i ∈ vs) (h : tE K W ca (eLc t vs fi fc fe) σ H Q) :
    tLc (tI K W ca fi) (tG K t) (tT K WF ca fc) (tE K WF ca fe) vs σ H Q := by
  obtain ⟨A0, F, s, r0, h⟩ := h
  refine ⟨A0, F, s, r0, ?_⟩
  unfold eLc at h
  cases hfi : fi s with
  | bad => rw [hfi] at h; exact h
  | ex c s1 => rw [hfi] at h; exact h
  | ok p s1 =>
    rw [hfi] at h
    intro A1 H1 e1 k1 r1 J hB hW D hD
    obtain ⟨items, lk⟩ := p
    dsimp only at hB hW
    replace h : Out K W ca A0 F s σ (if freeS s1 vs = true then (lcL t vs fc fe items [] (wipeS s1 vs)).bind fun ds s2 => .ok (.o ds) (unlock lk (restS s1 s2 vs)) else .bad) fun r A1 s' H' => ∀ v, RV K A1 F s' σ H' v r → Q v H' := h
    split at h
    · rename_i fr
      obtain ⟨zD, fD, nD⟩ := r1.none_of hD
      have lkv : ∀ p ∈ lk, p.1 ∉ vs := fun p hp hi => by
        obtain ⟨l, ds, q1, _⟩ := hW.lok p hp
        rcases freeS_at fr hi q1 with q | ⟨d, q⟩ <;> cases q
      refine ⟨fun i m H => m = items.length - i ∧ i ≤ items.length ∧ ∃ A2 sI acc accV, Ext A1 F A2 ∧ A2 D = none ∧ Keep (wipeS s1 vs) (wipe σ vs) sI (wipe σ vs) ∧ R K A2 F sI (wipe σ vs) H ∧ (∀ j, ¬ Own sI (wipe σ vs) j D) ∧
        H D = some (.lst accV) ∧ Reps K A2 acc accV ∧ Out K W ca A0 F s σ ((lcL t vs fc fe (items.drop i) acc sI).bind fun ds s2 => .ok (.o ds) (unlock lk (restS s1 s2 vs))) fun r A1 s' H' => ∀ v, RV K A1 F s' σ H' v r → Q v H',
        ⟨items.length, by simp, Nat.zero_le _, A1, wipeS s1 vs, [], [], .refl, zD, .refl, (r1.growH hD).wiped vs, fun j ⟨x, q1, q2, q3⟩ => ?_, upd_same, .nil, h⟩, ?_⟩
      · by_cases hi : j ∈ vs
        · rw [wipeS_in hi q1] at q2; cases q2
        · rw [wipeS_out hi] at q1; rw [wipe_out hi] at q3
          exact nD j ⟨x, q1, q2, q3⟩
      rintro i m H ⟨rfl, hi, A2, sI, acc, accV, e2, zD2, k2, r2, nD2, hDl, rp, h⟩
      have lks : ∀ p ∈ lk, sI.e[p.1]? = s1.e[p.1]? ∧ (wipe σ vs)[p.1]? = σ[p.1]? := fun p hp => by
        obtain ⟨l, ds, q1, _⟩ := hW.lok p hp
        obtain ⟨_, y, q2, q3⟩ := k2 p.1 _ (by rw [wipeS_out (lkv p hp)]; exact q1) rfl
        cases q3
        exact ⟨q2.trans q1.symm, wipe_out (lkv p hp)⟩
      have r2F := r2.frame hDl nD2
      obtain ⟨go, stop⟩ := hW.run i A2 (upd F D (.lst accV)) sI (wipe σ vs) H r2F e2.same lks
      by_cases hlt : i < items.length
      · right
        obtain ⟨jgo, yld⟩ := go hlt
        refine ⟨jgo, fun H' => ∃ A3 sJ acc' accV', Ext A1 F A3 ∧ A3 D = none ∧ Keep (wipeS s1 vs) (wipe σ vs) sJ (wipe σ vs) ∧ R K A3 F sJ (wipe σ vs) H' ∧ (∀ j, ¬ Own sJ (wipe σ vs) j D) ∧
          H' D = some (.lst accV') ∧ Reps K A3 acc' accV' ∧ Out K W ca A0 F s σ ((lcL t vs fc fe (items.drop (i + 1)) acc' sJ).bind fun ds s2 => .ok (.o ds) (unlock lk (restS s1 s2 vs))) fun r A1 s' H' => ∀ v, RV K A1 F s' σ H' v r → Q v H',
          fun H' hn => ⟨items.length - (i + 1), by omega, rfl, hlt, hn⟩, fun x H3 hy => ?_⟩
        obtain ⟨A3, d, hd, e3, r3, rpd⟩ := yld x H3 hy
        have hdr : items.drop i = d :: items.drop (i + 1) := by
          rw [List.drop_eq_getElem_cons hlt]
          rw [List.getElem?_eq_getElem hlt] at hd; cases hd; rfl
        rw [hdr, lcL_step] at h
        cases ha : asgT t d sI with
        | none => rw [ha] at h; exact h.elim
        | some s3 =>
          rw [ha] at h
          refine ⟨A3, upd F D (.lst accV), sI, d, s3, r3, rpd, ha, fun σ1 r3' out3 k3 => ?_⟩
          have hlen : σ1.length = (wipe σ vs).length := by
            rw [← r3'.len, ← r3.len]
            -- the length stays
            have : ∀ i, i ∉ tgV t → σ1[i]? = (wipe σ vs)[i]? ∧ s3.e[i]? = sI.e[i]? := out3
            exact asgT_len ha
          have wq : wipe σ1 vs = wipe σ vs := by
            have w1 : wipe σ1 vs = wipe (wipe σ vs) vs := wipe_eq hlen fun j hj => (out3 j fun q => hj (hv j q)).1
            have w2 : wipe (wipe σ vs) vs = wipe σ vs := wipe_eq (wipe_length σ vs) fun j hj => wipe_out hj
            exact w1.trans w2
          refine ⟨wq, A3, upd F D (.lst accV), s3, r3', ?_⟩
          dsimp only at h
          -- behind a turn's end
          have fin : ∀ {A5 H5 s5 x}, Ext A3 (upd F D (.lst accV)) A5 → KeepE s3 s5 σ1 → R K A5 (upd F D (.lst accV)) s5 σ1 H5 → ∀ {acc' accV'}, Reps K A5 acc' accV' →
              Out K W ca A0 F s σ ((lcL t vs fc fe (items.drop (i + 1)) acc' (wipeS s5 vs)).bind fun ds s2 => .ok (.o ds) (unlock lk (restS s1 s2 vs))) (fun r A1 s' H' => ∀ v, RV K A1 F s' σ H' v r → Q v H') → x = upd H5 D (.lst accV') →
              ∃ A3 sJ acc' accV', Ext A1 F A3 ∧ A3 D = none ∧ Keep (wipeS s1 vs) (wipe σ vs) sJ (wipe σ vs) ∧ R K A3 F sJ (wipe σ vs) x ∧ (∀ j, ¬ Own sJ (wipe σ vs) j D) ∧
                x D = some (.lst accV') ∧ Reps K A3 acc' accV' ∧ Out K W ca A0 F s σ ((lcL t vs fc fe (items.drop (i + 1)) acc' sJ).bind fun ds s2 => .ok (.o ds) (unlock lk (restS s1 s2 vs))) fun r A1 s' H' => ∀ v, RV K A1 F s' σ H' v r → Q v H' := by
            intro A5 H5 s5 x e5 k5 r5 acc' accV' rp5 h5 ex
            subst ex
            have nFD : (upd F D (.lst accV)) D ≠ none := by rw [upd_same]; simp
            have zD5 : A5 D = none := ((e3.trans e5).off D nFD).trans zD2
            obtain ⟨r6, n6⟩ := (r5.wiped vs).reframe (o' := .lst accV') zD5 fD
            rw [wq] at r6 n6
            have sub : ∀ a, F a ≠ none → (upd F D (.lst accV)) a ≠ none := fun a ha => by
              by_cases e : a = D
              · subst e; exact absurd fD ha
              · rw [upd_ne e]; exact ha
            refine ⟨A5, wipeS s5 vs, acc', accV', e2.trans ((e3.trans e5).sub sub), zD5, fun j y hy py => ?_, r6, n6, upd_same, rp5, h5⟩
            have hj : j ∉ vs := fun hj => by rw [wipeS_in hj hy] at py; cases py
            obtain ⟨q1, z, q2, q3⟩ := k2.trans (k3.trans k5) j y hy py
            exact ⟨rfl, z, by rw [wipeS_out hj]; exact q2, q3⟩
          cases hc : fc s3 with
          | bad => rw [hc] at h; exact h.elim
          | ex c s4 => rw [hc] at h; exact h.elim
          | ok b s4 =>
            rw [hc] at h
            intro A4 H4 e4 k4 r4
            cases b with
            | false =>
              rw [if_neg Bool.false_ne_true]
              have hD4 : H4 D = some (.lst accV) := r4.fh D _ upd_same
              refine fin e4 k4 r4 (rp.mono (e3.trans e4).same) h ?_
              funext b
              by_cases e : b = D
              · subst e; rw [upd_same, hD4]
              · rw [upd_ne e]
            | true =>
              rw [if_pos rfl]
              refine tE_frz ⟨A4, upd F D (.lst accV), s4, r4, ?_⟩
              dsimp only at h
              dsimp only
              cases hx : (fe s4).bind frz with
              | bad => rw [hx] at h; exact h.elim
              | ex c s5 => rw [hx] at h; exact h.elim
              | ok x s5 =>
                rw [hx] at h
                dsimp only at h
                split at h
                · rename_i hz
                  intro A5 H5 e5 k5 r5 v rv
                  refine ⟨accV, r5.fh D _ upd_same, ?_, ?_⟩
                  · rw [← rp.length]
                    rw [sizeLine_eq]; exact hz
                  · exact fin (e4.trans e5) (k4.trans k5) r5 ((rp.mono (e3.trans (e4.trans e5)).same).append (.cons rv .nil)) h rfl
                · exact h.elim
      · left
        have ei : i = items.length := by omega
        subst ei
        refine ⟨stop (Nat.le_refl _), ?_⟩
        rw [List.drop_length] at h
        have r3 : R K A2 F (restS s1 sI vs) σ H := r1.restore fr r2 e2.same (Same.refl _)
        have k3 : Keep s1 σ (restS s1 sI vs) σ := .restore fr k2
        have lc := (hW.lok.stay k3).1.c
        have k4 : Keep s σ (unlock lk (restS s1 sI vs)) σ := (k1.trans k3).unlock hB
        refine h A2 H (e1.trans e2) k4 (r3.unlock lc) (.ref D) ⟨D, accV, rfl, hDl, rp, zD2, fD, fun j ⟨x, q1, q2, q3⟩ => ?_⟩
        -- whose is it: nobody's
        obtain ⟨y, hy⟩ : ∃ y, (restS s1 sI vs).e[j]? = some y := by
          have := set_at q1
          rw [unlock_len] at this
          exact ⟨_, List.getElem?_eq_getElem this⟩
        have py : isOw y = true := by
          rcases unlock_get (lk := lk) hy with ⟨q4, _⟩ | ⟨p, hp, rfl, _⟩
          · rw [q1] at q4; cases q4; exact q2
          · obtain ⟨z, ds, q5, q6, _⟩ := lc p hp
            rw [hy] at q5; cases q5
            exact ctn_ow q6
        have hj : j ∉ vs := fun hj => by
          have h1 := restS_in hj hy
          have hj' : j < s1.e.length := by
            have := set_at hy
            rw [restS_len, r2.len, wipe_length] at this
            rw [r1.len]; exact this
          have h2 : s1.e[j]? = some y := by
            rw [h1, List.getElem?_eq_getElem hj', List.getD_eq_getElem?_getD, List.getElem?_eq_getElem hj']; rfl
          rcases freeS_at fr hj h2 with rfl | ⟨d, rfl⟩ <;> cases py
        exact nD2 j ⟨y, by rw [restS_out hj] at hy; exact hy, py, by rw [wipe_out hj]; exact q3⟩
    · exact h.elim
theorem se_lc {elt tg iter : Expr} {ifs : List Expr} {scope : Scope} {own : List (Str × Nat)} {t : Tg} {fi : S → Ro (List D × Lk)} {fc : S → Ro Bool} {fe : S → Ro Rv} (hc : X.calm = true) (hN : X.N.Nodup) (hi : PI X tg iter (tI X.K W ca fi)) (ok : BlkOk X.N X.env.scope scope own)
    (hg : ∀ (s : Shared) (H : Hp) (C : Addr) (cl : List (Str × Addr)) (fp : List Addr), PG (X.blk s H scope (compEnvC scope cl C X.env) fp) tg (tG X.K t))
    (ht : ∀ (s : Shared) (H : Hp) (C : Addr) (cl : List (Str × Addr)) (fp : List Addr), PTs (X.blk s H scope (compEnvC scope cl C X.env) fp) ifs (tT X.K WF ca fc))
    (he : ∀ (s : Shared) (H : Hp) (C : Addr) (cl : List (Str × Addr)) (fp : List Addr), PE (X.blk s H scope (compEnvC scope cl C X.env) fp) elt (tE X.K WF ca fe)) (hs : ∀ x, foldedSetIterable iter X.env x = pure x)
    (hv : ∀ i ∈ tgV t, i ∈ own.map (·.2)) : SE X W ca (.ListComp elt [⟨tg, iter, ifs, 0⟩] scope pos) (eLc t (own.map (·.2)) fi fc fe) :=
  PE.imp (pe_lc hc hN hi ok hg ht he hs) fun σ H Q h => lc_out hv h
end
end Z

/-! Z: statements. -/
namespace Z
open PySem PySem.Spec PyProof.Rows L2

section
variable (K : PySem.W.Frag) (W : WX) (ca : Nat → Value)
def OutS (A0 F : Hp) (s : S) (σ : List (Option V)) (r : Fo) (D : Ends) : Prop := match r with
  | .nx s' => ∀ A1 H' σ', Ext A0 F A1 → Keep s σ s' σ' → R K A1 F s' σ' H' → D.nx σ' H'
  | .bk s' => ∀ A1 H' σ', Ext A0 F A1 → Keep s σ s' σ' → R K A1 F s' σ' H' → D.bk σ' H'
  | .ct s' => ∀ A1 H' σ', Ext A0 F A1 → Keep s σ s' σ' → R K A1 F s' σ' H' → D.ct σ' H'
  | .rt r s' => ∀ A1 H' σ' v, Ext A0 F A1 → Keep s σ s' σ' → R K A1 F s' σ' H' → RV K A1 F s' σ' H' v r → D.rt v H'
  | .ex c s' => ∀ A1 H' σ', Ext A0 F A1 → Keep s σ s' σ' → R K A1 F s' σ' H' → W (ca c) none σ' H'
  | .bad => False
def tS (f : S → Fo) : TS := fun D σ H => ∃ A0 F s, R K A0 F s σ H ∧ OutS K W ca A0 F s σ (f s) D
end
section
variable {K : PySem.W.Frag} {W : WX} {ca : Nat → Value} {A0 A1 F H H' : Hp} {s s' : S} {σ σ' : List (Option V)} {D D' : Ends}
theorem OutS.step {r : Fo} (h : OutS K W ca A0 F s σ r D) (e : Ext A0 F A1) (k : Keep s σ s' σ') : OutS K W ca A1 F s' σ' r D := by
  cases r with
  | nx s1 => exact fun A2 H2 σ2 e2 k2 r2 => h A2 H2 σ2 (e.trans e2) (k.trans k2) r2
  | bk s1 => exact fun A2 H2 σ2 e2 k2 r2 => h A2 H2 σ2 (e.trans e2) (k.trans k2) r2
  | ct s1 => exact fun A2 H2 σ2 e2 k2 r2 => h A2 H2 σ2 (e.trans e2) (k.trans k2) r2
  | rt v s1 => exact fun A2 H2 σ2 v e2 k2 r2 => h A2 H2 σ2 v (e.trans e2) (k.trans k2) r2
  | ex c s1 => exact fun A2 H2 σ2 e2 k2 r2 => h A2 H2 σ2 (e.trans e2) (k.trans k2) r2
  | bad => exact h
/-- an expression first -/
theorem OutS.of {α : Type} {r : Ro α} {f : α → S → Fo} (h : OutS K W ca A0 F s σ (Fo.of r f) D) : Out K W ca A0 F s σ r fun a A1 s1 H1 => OutS K W ca A1 F s1 σ (f a s1) D := by
  cases r with
  | bad => exact h
  | ex c s1 => exact fun A1 H1 e1 k1 r1 => h A1 H1 σ e1 k1 r1
  | ok a s1 => exact fun A1 H1 e1 k1 r1 => OutS.step h e1 k1
theorem OutS.ofS {o : Option S} (h : OutS K W ca A0 F s σ (ofS o) D) : ∃ s1, o = some s1 ∧ OutS K W ca A0 F s σ (.nx s1) D := by
  cases o with
  | none => exact h.elim
  | some s1 => exact ⟨s1, rfl, h⟩
theorem PS.imp {X : Cx} {st : Stmt} {t t' : TS} (h : PS X st t) (m : ∀ D σ H, t' D σ H → t D σ H) : PS X st t' := ⟨fun pins s σ H D I q => h.run pins s σ H D I (m D σ H q)⟩
theorem PSs.imp {X : Cx} {st : List Stmt} {t t' : TS} (h : PSs X st t) (m : ∀ D σ H, t' D σ H → t D σ H) : PSs X st t' := ⟨fun pins s σ H D I q => h.run pins s σ H D I (m D σ H q)⟩
end
section
variable {X : Cx} {W : WX} {ca : Nat → Value} {pos : Pos} {e c : Expr} {st : Stmt} {a b sts : List Stmt} {fe fi : S → Ro Rv} {fc : S → Ro Bool} {f g : S → Fo}
abbrev SSt (X : Cx) (W : WX) (ca : Nat → Value) (st : Stmt) (f : S → Fo) : Prop := PS X st (tS X.K W ca f)
abbrev SSs (X : Cx) (W : WX) (ca : Nat → Value) (st : List Stmt) (f : S → Fo) : Prop := PSs X st (tS X.K W ca f)
theorem ss_nil : SSs X W ca [] (fun s => .nx s) := PSs.imp pss_nil fun D σ H ⟨A0, F, s, r0, h⟩ => h A0 H σ .refl .refl r0
theorem ss_cons (h1 : SSt X W ca st f) (h2 : SSs X W ca sts g) : SSs X W ca (st :: sts) (fun s => (f s).bind g) := PSs.imp (pss_cons h1 h2) fun D σ H ⟨A0, F, s, r0, h⟩ => by
  refine ⟨A0, F, s, r0, ?_⟩
  cases q : f s with
  | nx s1 =>
    dsimp only at h
    rw [q] at h
    exact fun A1 H1 σ1 e1 k1 r1 => ⟨A1, F, s1, r1, OutS.step h e1 k1⟩
  | bk s1 => dsimp only at h; rw [q] at h; exact h
  | ct s1 => dsimp only at h; rw [q] at h; exact h
  | rt v s1 => dsimp only at h; rw [q] at h; exact h
  | ex c s1 => dsimp only at h; rw [q] at h; exact h
  | bad => dsimp only at h; rw [q] at h; exact h
theorem st_pass : SSt X W ca (.Pass pos) (fun s => .nx s) := PS.imp ps_pass fun D σ H ⟨A0, F, s, r0, h⟩ => h A0 H σ .refl .refl r0
theorem st_rse {c : Nat} (hc : X.calm = true) (tk : Takes X W) (he : PMk X e (fun _ H Q => Q (ca c) none H)) : SSt X W ca (.Raise (some e) none pos) (fun s => .ex c s) := PS.imp (ps_raise hc tk he) fun D σ H ⟨A0, F, s, r0, h⟩ => h A0 H σ .refl .refl r0
theorem st_nev : SSt X W ca st (fun _ => .bad) := PS.imp ps_never fun D σ H ⟨A0, F, s, r0, h⟩ => h.elim
theorem st_tryx {c : Nat} {d : D} {x : Str} {C : Addr} {j : Nat} {k : Const} {np pos' p1 p2 : Pos} {body : List Stmt} {fb : S → Fo} (hs : X.stack = X.env :: X.outer) (hf : X.env.frame = some X.env.locals) (hn : Names X x (.ref C)) (tk : Takes X W) (hca : ca c = .ref C) (hm : PySem.W.exmOne X.K (.ref C) (.ref C) = some true)
    (hk : ∀ (X' : Cx), X'.K = X.K → SSt X' (fun _ _ _ _ => False) ca (.Return (some (.Constant k j p1)) p2) (fun s => .rt (.v d) s))
    (hb : ∀ (W' : WX) (pn : List (Addr × Obj)) (xe : Value → Shared → Prop), Takes (X.tr pn xe) W' → PassesOwn (model X.prog X.w) X.A X.env xe → SSs (X.tr pn xe) W' ca body fb) :
    SSt X W ca (.Try body [.ExceptHandler (some (.Name x np)) none [.Return (some (.Constant k j p1)) p2] pos'] [] [] pos) (tryF fb c d) := by
  refine PS.imp (ps_try_only (tb := fun W' => tS X.K W' ca fb) (ts := fun _ _ _ => tS X.K (fun _ _ _ _ => False) ca (fun s => .rt (.v d) s)) hs hf hn tk (fun W' pn xe t p => hb W' pn xe t p) (fun a oe cls dd pn _ _ => pss_one (hk (X.suite a ((a, oe) :: pn)) rfl))) fun D σ H ⟨A0, F, s, r0, h⟩ => ⟨A0, F, s, r0, ?_⟩
  unfold tryF at h
  cases q : fb s with
  | nx s1 => rw [q] at h; exact h
  | bk s1 => rw [q] at h; exact h
  | ct s1 => rw [q] at h; exact h
  | rt v s1 => rw [q] at h; exact h
  | bad => rw [q] at h; exact h
  | ex c' s1 =>
    rw [q] at h
    dsimp only at h
    by_cases e : c' = c
    · rw [if_pos e] at h
      subst e
      intro A1 H1 σ1 e1 k1 r1
      refine ⟨true, by rw [hca]; exact hm, fun _ a _ => ⟨A1, F, s1, r1, ?_⟩, fun z => Bool.noConfusion z⟩
      exact fun A2 H2 σ2 v e2 k2 r2 rv => h A2 H2 σ2 v (e1.trans e2) (k1.trans k2) r2 rv
    · rw [if_neg e] at h; exact h.elim
theorem st_break : SSt X W ca (.Break pos) (fun s => .bk s) := PS.imp ps_break fun D σ H ⟨A0, F, s, r0, h⟩ => h A0 H σ .refl .refl r0
theorem st_continue : SSt X W ca (.Continue pos) (fun s => .ct s) := PS.imp ps_continue fun D σ H ⟨A0, F, s, r0, h⟩ => h A0 H σ .refl .refl r0
theorem st_doc {x : Str} {j : Nat} {pos' : Pos} : SSt X W ca (.Expr (.Constant (.str x) j pos) pos') (fun s => .nx s) := PS.imp ps_doc fun D σ H ⟨A0, F, s, r0, h⟩ => h A0 H σ .refl .refl r0
theorem st_expr (he : SE X W ca e fe) (hs : swapsWith e none pos.line X.env = pure false) : SSt X W ca (.Expr e pos) (fun s => .of (fe s) fun _ s1 => .nx s1) :=
  PS.imp (ps_expr he hs) fun D σ H ⟨A0, F, s, r0, h⟩ => ⟨A0, F, s, r0, h.of.mono fun r A1 s1 H1 e1 k1 r1 h1 v rv => h1 A1 H1 σ .refl .refl r1⟩
theorem st_retN : SSt X W ca (.Return none pos) (fun s => .rt (.v .non) s) := PS.imp ps_retN fun D σ H ⟨A0, F, s, r0, h⟩ => h A0 H σ _ .refl .refl r0 .non
theorem own_set {K : PySem.W.Frag} {A0 F H : Hp} {s : S} {σ : L2.St} {i : Nat} {a : Addr} {x : Slot} (r0 : R K A0 F s σ H) (ho : Own s σ i a) (nx : isOw x = false) : ∀ j, ¬ Own ⟨s.e.set i x⟩ σ j a := fun j ⟨y, h1, h2, h3⟩ => by
  rcases getElem?_set_some h1 with ⟨_, rfl, _⟩ | ⟨n, h1⟩
  · rw [nx] at h2; cases h2
  · exact n (r0.sep i j a ho ⟨y, h1, h2, h3⟩)
theorem st_ret (he : SE X W ca e fe) : SSt X W ca (.Return (some e) pos) (sRet fe) := PS.imp (ps_ret he) fun D σ H ⟨A0, F, s, r0, h⟩ => ⟨A0, F, s, r0, h.of.mono fun r A1 s1 H1 e1 k1 r1 h1 v rv => by
  cases r with
  | v d => exact h1 A1 H1 σ v .refl .refl r1 rv
  | o ds => exact h1 A1 H1 σ v .refl .refl r1 rv
  | b i =>
    dsimp only at h1
    have rvi : σ[i]? = some (some v) := rv
    split at h1
    · rename_i ds hx
      obtain ⟨a, vs, ds', q1, q2, q3, q4, q5⟩ := r1.owns hx rfl
      rw [rvi] at q1; cases q1
      have ed : ds' = ds := by rcases q5 with q5 | q5 | ⟨l, q5⟩ <;> first | (cases q5; done) | (injection q5 with q5; exact q5.symm)
      subst ed
      have r2 := r1.tell (i := i) (x := .no) (fun _ _ => .no _) (fun q => by cases q)
      refine h1 A1 H1 σ _ .refl (fun j y hy py => ⟨rfl, y, ?_, .refl⟩) r2 ⟨a, vs, rfl, q3, q4, (r1.out i a q2).1, (r1.out i a q2).2, own_set r1 q2 rfl⟩
      rw [List.getElem?_set_ne (fun e => by subst e; rw [hx] at hy; cases hy; cases py)]
      exact hy
    · rename_i d hx
      obtain ⟨o, q1, q2⟩ := r1.sl i _ hx
      rw [rvi] at q1; cases q1
      cases q2 with | sh q => exact h1 A1 H1 σ v .refl .refl r1 q
    · rename_i d hx
      obtain ⟨o, q1, q2⟩ := r1.sl i _ hx
      rw [rvi] at q1; cases q1
      cases q2 with | lf q => exact h1 A1 H1 σ v .refl .refl r1 q
    · rename_i ds hx
      obtain ⟨a, vs, e2, e3, z, f, r2, r3⟩ := r1.fixS (y := .lf (.lst _)) hx (.inr rfl) (.inr rfl)
      rw [rvi] at e2; cases e2
      refine h1 _ H1 σ _ (.fix z f) (fun j y hy py => ⟨rfl, ?_⟩) r2 r3
      by_cases e : i = j
      · subst e
        rw [hx] at hy; cases hy
        exact ⟨_, List.getElem?_set_self (set_at hx), .inr (.inl ⟨_, rfl⟩)⟩
      · exact ⟨y, by rw [List.getElem?_set_ne e]; exact hy, .refl⟩
    · exact h1.elim⟩
theorem st_if (hc : ST X W ca c fc) (ha : SSs X W ca a f) (hb : SSs X W ca b g) : SSt X W ca (.If c a b pos) (sIf fc f g) :=
  PS.imp (ps_if hc ha hb) fun D σ H ⟨A0, F, s, r0, h⟩ => ⟨A0, F, s, r0, h.of.mono fun k A1 s1 H1 e1 k1 r1 h1 => by
    cases k with
    | true => rw [if_pos rfl] at h1 ⊢; exact ⟨A1, F, s1, r1, h1⟩
    | false => rw [if_neg Bool.false_ne_true] at h1 ⊢; exact ⟨A1, F, s1, r1, h1⟩⟩
/-! stores -/
theorem set_out {i : Nat} {D : Ends} {σ : L2.St} {H : Hp} (h : tS X.K W ca (sAsg (.var i) fe) D σ H) : tE X.K W ca fe σ H fun x H1 => D.nx (σ.set i (some x)) H1 := by
  obtain ⟨A0, F, s, r0, h⟩ := h
  refine ⟨A0, F, s, r0, h.of.mono fun r A1 s1 H1 e1 k1 r1 h1 v rv => ?_⟩
  cases r with
  | v d =>
    obtain ⟨s2, h2, h3⟩ := h1.ofS
    obtain ⟨rfl, y, hy, py⟩ := putS_some h2
    exact h3 A1 H1 _ .refl (.put hy py) (r1.put (.sh rv) fun q => by cases q)
  | o ds =>
    obtain ⟨a, vs, rfl, q1, q2, q3, q4, q5⟩ := rv
    obtain ⟨s2, h2, h3⟩ := h1.ofS
    obtain ⟨rfl, y, hy, py⟩ := putS_some h2
    exact h3 A1 H1 _ .refl (.put hy py) (r1.put (.ow q1 q2) fun _ b hb => by cases hb; exact ⟨q3, q4, fun j _ => q5 j⟩)
  | b j =>
    have rvj : σ[j]? = some (some v) := rv
    obtain ⟨A2, F2, s2, r2, h2⟩ := tE_frz (K := X.K) (W := W) (ca := ca) (f := fun s => .ok (.b j) s) (σ := σ) (H := H1) (Q := fun v' H' => v' = v → D.nx (σ.set i (some v')) H')
      ⟨A1, F, s1, r1, h1.of.mono fun d A3 s3 H3 e3 k3 r3 h3 w rw' ew => by
        obtain ⟨s4, h4, h5⟩ := h3.ofS
        obtain ⟨rfl, y, hy, py⟩ := putS_some h4
        exact h5 A3 H3 _ .refl (.put hy py) (r3.put (.sh rw') fun q => by cases q)⟩
    exact h2.now r2 v rvj rfl
theorem st_set {i : Nat} {x : Str} {pos' : Pos} (hN : X.N.Nodup) (hi : X.N[i]? = some x) (hx : Loc X.env.scope x) (he : SE X W ca e fe) (hs : swapsWith e (some (.Name x pos')) pos.line X.env = pure false) (hf : X.fn x = true ∨ X.env.scope.names.lookup x = some .local) :
    SSt X W ca (.Assign [.Name x pos'] e pos) (sAsg (.var i) fe) := PS.imp (ps_set hN hi hx he hs hf) fun D σ H h => set_out h
theorem st_asg {tg : Expr} {ts : Tgs} (he : SE X W ca e fe) (hg : PG X tg (tG X.K (.tup ts))) (hs : swapsWithSole [tg] e pos.line X.env = pure false) (hw : swappedStores [tg] e X.env = pure none) (h1 : (assignEach [tg] X.env).map (·.2) = [assign tg X.env]) :
    SSt X W ca (.Assign [tg] e pos) (sAsg (.tup ts) fe) := PS.imp (ps_asg he hg hs hw h1) fun D σ H ⟨A0, F, s, r0, h⟩ => tE_frz ⟨A0, F, s, r0, h.of.mono fun d A1 s1 H1 e1 k1 r1 h1 v rv => by
      obtain ⟨s2, h2, h3⟩ := h1.ofS
      exact ⟨A1, F, s1, d, s2, r1, rv, h2, fun σ1 r2 _ k2 => h3 A1 H1 σ1 .refl k2 r2⟩⟩
theorem st_par {i j : Nat} {x y : Str} {a b : Expr} {fa fb : S → Ro Rv} {px py pt : Pos} {kt k2 : Nat} {pt2 : Pos} (hc : X.calm = true) (hN : X.N.Nodup) (hi : X.N[i]? = some x) (hj : X.N[j]? = some y) (hij : i ≠ j)
    (hx : X.env.scope.names.lookup x = some .local) (hy : X.env.scope.names.lookup y = some .local) (ha : SE X W ca a fa) (hb : SE X W ca b fb) (hst : starEach [a, b] X.env = (false, eval a X.env) :: starEach [b] X.env) (hst2 : starEach [b] X.env = (false, eval b X.env) :: starEach [] X.env)
    (hw : swappedStores [.Tuple [.Name x px, .Name y py] kt pt] (.Tuple [a, b] k2 pt2) X.env = pure (some [x, y]))
    (hs : swapsWithSole [.Tuple [.Name x px, .Name y py] kt pt] (.Tuple [a, b] k2 pt2) pos.line X.env = pure false) :
    SSt X W ca (.Assign [.Tuple [.Name x px, .Name y py] kt pt] (.Tuple [a, b] k2 pt2) pos) (sPar i j fa fb) :=
  PS.imp (ps_par hc hN hi hj hij hx hy (sf_cons ha (sf_cons hb sf_nil hst2) hst) hw hs) fun D σ H ⟨A0, F, s, r0, h⟩ => by
    refine ⟨A0, F, s, r0, ?_⟩
    have h1 := h.of
    cases q : (fa s).bind frz with
    | bad => rw [q] at h1; dsimp only; rw [q]; exact h1
    | ex c s1 => rw [q] at h1; dsimp only; rw [q]; exact h1
    | ok d s1 =>
      rw [q] at h1
      dsimp only
      rw [q]
      show Out X.K W ca A0 F s σ ((((fb s1).bind frz).bind fun x s2 => .ok [x] s2).bind fun xs s2 => .ok (d :: xs) s2) _
      cases q2 : (fb s1).bind frz with
      | bad =>
        replace h : OutS X.K W ca A0 F s σ (Fo.of ((fa s).bind frz) fun d s1 => Fo.of ((fb s1).bind frz) fun e s2 => ofS ((putS i (.sh d) s2).bind (putS j (.sh e)))) D := h
        rw [q] at h
        replace h : OutS X.K W ca A0 F s σ (Fo.of ((fb s1).bind frz) fun e s2 => ofS ((putS i (.sh d) s2).bind (putS j (.sh e)))) D := h
        rw [q2] at h
        exact h.elim
      | ex c s2 =>
        replace h : OutS X.K W ca A0 F s σ (Fo.of ((fa s).bind frz) fun d s1 => Fo.of ((fb s1).bind frz) fun e s2 => ofS ((putS i (.sh d) s2).bind (putS j (.sh e)))) D := h
        rw [q] at h
        replace h : OutS X.K W ca A0 F s σ (Fo.of ((fb s1).bind frz) fun e s2 => ofS ((putS i (.sh d) s2).bind (putS j (.sh e)))) D := h
        rw [q2] at h
        exact fun A1 H1 e1 k1 r1 => h A1 H1 σ e1 k1 r1
      | ok e2 s2 =>
        replace h : OutS X.K W ca A0 F s σ (Fo.of ((fa s).bind frz) fun d s1 => Fo.of ((fb s1).bind frz) fun e s2 => ofS ((putS i (.sh d) s2).bind (putS j (.sh e)))) D := h
        rw [q] at h
        replace h : OutS X.K W ca A0 F s σ (Fo.of ((fb s1).bind frz) fun e s2 => ofS ((putS i (.sh d) s2).bind (putS j (.sh e)))) D := h
        rw [q2] at h
        intro A1 H1 e1 k1 r1 vs rvs
        cases rvs with
        | cons rv t =>
          cases t with
          | cons rw' t =>
            cases t
            obtain ⟨s3, h2, h3⟩ := OutS.ofS h
            obtain ⟨s4, h4, h5⟩ := Option.bind_eq_some_iff.mp h2
            obtain ⟨rfl, y1, hy1, py1⟩ := putS_some h4
            obtain ⟨rfl, y2, hy2, py2⟩ := putS_some h5
            exact ⟨_, _, rfl, h3 A1 H1 _ e1 (k1.trans ((Keep.put hy1 py1).trans (.put hy2 py2))) ((r1.put (.sh rv) fun q => by cases q).put (.sh rw') fun q => by cases q)⟩
theorem st_sub {i : Nat} {x : Str} {ix : Expr} {px : Pos} {tpos : Pos} (hN : X.N[i]? = some x) (hv : Vis X.env.scope x) (hd : (x == ("__debug__" : Str)) = false) (hcd : (x == ("__classdict__" : Str)) = false) (hi : SE X W ca ix fi) (he : SE X W ca e fe)
    (ha : ∀ v, assign (.Subscript (.Name x px) ix tpos) X.env v = (do
      let ov ← holding [v] (eval (.Name x px) X.env)
      let iv ← holding [v, ov] (eval ix X.env)
      standAt tpos
      holding [v, ov, iv] (setItem ov iv v)
      release [v, ov, iv] [])) (hs : swapsWithSole [.Subscript (.Name x px) ix tpos] e pos.line X.env = pure false) (hw : swappedStores [.Subscript (.Name x px) ix tpos] e X.env = pure none)
    (h1 : (assignEach [.Subscript (.Name x px) ix tpos] X.env).map (·.2) = [assign (.Subscript (.Name x px) ix tpos) X.env]) :
    SSt X W ca (.Assign [.Subscript (.Name x px) ix tpos] e pos) (sSub i fi fe) :=
  PS.imp (ps_asg he (pg_sub (pe_var hN hv hd hcd) hi set_list ha) hs hw h1) fun D σ H ⟨A0, F, s, r0, h⟩ => tE_frz ⟨A0, F, s, r0, h.of.mono fun d A1 s1 H1 e1 k1 r1 h1 v rv => by
    split at h1
    · exact h1.elim
    · rename_i d0 hc0
      obtain ⟨o, ho⟩ : ∃ o, σ[i]? = some (some o) := by
        unfold cntS at hc0
        cases hx : s1.e[i]? with
        | none => rw [hx] at hc0; cases hc0
        | some x =>
          obtain ⟨o, q1, q2⟩ := r1.sl i x hx
          rw [hx] at hc0
          cases q2 with
          | no => cases hc0
          | sh _ => exact ⟨_, q1⟩
          | lf _ => exact ⟨_, q1⟩
          | ow _ _ => exact ⟨_, q1⟩
          | le _ _ => exact ⟨_, q1⟩
          | lk _ _ => exact ⟨_, q1⟩
      refine ⟨o, ho, A1, F, s1, r1, h1.of.mono fun ri A2 s2 H2 e2 k2 r2 h2 w rw' => ?_⟩
      unfold subE at h2
      split at h2
      · rename_i k ds hc
        cases rw'
        split at h2
        · rename_i n hn
          obtain ⟨s3, h3, h4⟩ := h2.ofS
          have kp : ∀ (x y : Slot), s2.e[i]? = some x → (isPin x = true → PinTo x y) → Keep s2 σ ⟨s2.e.set i y⟩ σ := fun x y hx p => .lock hx p
          unfold mutS at h3
          split at h3
          · rename_i ds0 hx
            have e : ds0 = ds := by unfold cntS at hc; rw [hx] at hc; injection hc with hc; injection hc
            subst e
            cases h3
            obtain ⟨a, vs, ds1, q1, q2, q3, q4, q5⟩ := r2.owns hx rfl
            rw [ho] at q1; cases q1
            have ed : ds1 = ds0 := by rcases q5 with q5 | q5 | ⟨l, q5⟩ <;> first | (cases q5; done) | (injection q5 with q5; exact q5.symm)
            subst ed
            refine ⟨a, vs, k, n, rfl, rfl, q3, by rw [← q4.length]; exact hn, ?_⟩
            exact h4 A2 _ σ .refl (kp _ _ hx fun p => by cases p) (r2.mut hx (.inl ⟨rfl, rfl⟩) ho (Reps.set (rv.mono e2.same) n q4))
          · rename_i ds0 hx
            have e : ds0 = ds := by unfold cntS at hc; rw [hx] at hc; injection hc with hc; injection hc
            subst e
            cases h3
            obtain ⟨a, vs, ds1, q1, q2, q3, q4, q5⟩ := r2.owns hx rfl
            rw [ho] at q1; cases q1
            have ed : ds1 = ds0 := by rcases q5 with q5 | q5 | ⟨l, q5⟩ <;> first | (cases q5; done) | (injection q5 with q5; exact q5.symm)
            subst ed
            refine ⟨a, vs, k, n, rfl, rfl, q3, by rw [← q4.length]; exact hn, ?_⟩
            exact h4 A2 _ σ .refl (kp _ _ hx fun p => .inl ⟨_, rfl⟩) (r2.mut hx (.inr ⟨rfl, rfl⟩) ho (Reps.set (rv.mono e2.same) n q4))
          · cases h3
        · exact h2.elim
      · exact h2.elim⟩
/-! loops -/
theorem st_for {tg iter : Expr} {t : Tg} {fI : S → Ro (List D × Lk)} {b : List Stmt} {fb : S → Fo} (hp : PassesOwn (model X.prog X.w) X.A X.env X.xe) (hc : X.calm = true) (hi : PI X tg iter (tI X.K W ca fI)) (hg : PG X tg (tG X.K t)) (hb : SSs X W ca b fb)
    (hs : ∀ x, foldedSetIterable iter X.env x = pure x) : SSt X W ca (.For tg iter b [] pos) (sFor t fI fb) := PS.imp (ps_for hp hc hi hg hb hs) fun D σ H ⟨A0, F, s, r0, h⟩ => by
  refine ⟨A0, F, s, r0, ?_⟩
  have h' : OutS X.K W ca A0 F s σ (Fo.of (fI s) fun p s1 => forL t p.2 fb p.1 s1) D := h
  cases q : fI s with
  | bad => rw [q] at h'; exact h'
  | ex c s1 => rw [q] at h'; exact fun A1 H1 e1 k1 r1 => h' A1 H1 σ e1 k1 r1
  | ok p s1 =>
    rw [q] at h'
    obtain ⟨items, lk⟩ := p
    replace h' : OutS X.K W ca A0 F s σ (forL t lk fb items s1) D := h'
    intro A1 H1 e1 k1 r1 J hB hW
    dsimp only at hB hW
    refine ⟨fun i m σ' H' => m = items.length - i ∧ i ≤ items.length ∧ ∃ A2 s2, Ext A1 F A2 ∧ Keep s1 σ s2 σ' ∧ R X.K A2 F s2 σ' H' ∧ OutS X.K W ca A0 F s σ (forL t lk fb (items.drop i) s2) D,
      ⟨items.length, by simp, Nat.zero_le _, A1, s1, .refl, .refl, r1, h'⟩, ?_⟩
    rintro i m σ' H' ⟨rfl, hi, A2, s2, e2, k2, r2, h2⟩
    obtain ⟨lok2, lks⟩ := hW.lok.stay k2
    obtain ⟨go, stop⟩ := hW.run i A2 F s2 σ' H' r2 e2.same lks
    -- the loop's end
    have fin : ∀ {s3 σ3 H3 A3} {P : L2.St → Hp → Prop}, Ext A1 F A3 → Keep s1 σ s3 σ3 → R X.K A3 F s3 σ3 H3 → (∀ A1 H' σ', Ext A0 F A1 → Keep s σ (unlock lk s3) σ' → R X.K A1 F (unlock lk s3) σ' H' → P σ' H') → P σ3 H3 := fun e3 k3 r3 h3 =>
      h3 _ _ _ (e1.trans e3) ((k1.trans k3).unlock hB) (r3.unlock (hW.lok.stay k3).1.c)
    by_cases hlt : i < items.length
    · right
      obtain ⟨jgo, yld⟩ := go hlt
      refine ⟨jgo, fun σ' H' => ∃ A2 s2, Ext A1 F A2 ∧ Keep s1 σ s2 σ' ∧ R X.K A2 F s2 σ' H' ∧ OutS X.K W ca A0 F s σ (forL t lk fb (items.drop (i + 1)) s2) D, fun σ' H' hn => ⟨items.length - (i + 1), by omega, rfl, hlt, hn⟩, fun x H3 hy => ?_⟩
      obtain ⟨A3, d, hd, e3, r3, rpd⟩ := yld x H3 hy
      have hdr : items.drop i = d :: items.drop (i + 1) := by
        rw [List.drop_eq_getElem_cons hlt]
        rw [List.getElem?_eq_getElem hlt] at hd; cases hd; rfl
      rw [hdr] at h2
      unfold forL at h2
      cases ha : asgT t d s2 with
      | none => rw [ha] at h2; exact h2.elim
      | some s3 =>
        rw [ha] at h2
        refine ⟨A3, F, s2, d, s3, r3, rpd, ha, fun σ1 r3' out3 k3 => ⟨A3, F, s3, r3', ?_⟩⟩
        dsimp only at h2
        cases hb : fb s3 with
        | bad => rw [hb] at h2; exact h2.elim
        | nx s4 => rw [hb] at h2; exact fun A4 H4 σ4 e4 k4 r4 => ⟨A4, s4, e2.trans (e3.trans e4), k2.trans (k3.trans k4), r4, h2⟩
        | ct s4 => rw [hb] at h2; exact fun A4 H4 σ4 e4 k4 r4 => ⟨A4, s4, e2.trans (e3.trans e4), k2.trans (k3.trans k4), r4, h2⟩
        | bk s4 => rw [hb] at h2; exact fun A4 H4 σ4 e4 k4 r4 => fin (e2.trans (e3.trans e4)) (k2.trans (k3.trans k4)) r4 h2
        | rt v s4 => rw [hb] at h2; exact fun A4 H4 σ4 v e4 k4 r4 rv => h2 A4 H4 σ4 v (e1.trans (e2.trans (e3.trans e4))) (k1.trans (k2.trans (k3.trans k4))) r4 rv
        | ex c s4 => rw [hb] at h2; exact fun A4 H4 σ4 e4 k4 r4 => h2 A4 H4 σ4 (e1.trans (e2.trans (e3.trans e4))) (k1.trans (k2.trans (k3.trans k4))) r4
    · left
      have ei : i = items.length := by omega
      subst ei
      rw [List.drop_length] at h2
      exact ⟨stop (Nat.le_refl _), fin e2 k2 r2 h2⟩
theorem st_while {b : List Stmt} {fb : S → Fo} {n : Nat} (hp : PassesOwn (model X.prog X.w) X.A X.env X.xe) (hc : ST X W ca c fc) (hb : SSs X W ca b fb) : SSt X W ca (.While c b [] pos) (whlL fc fb n) :=
  PS.imp (ps_while hp hc hb) fun D σ H h => by
    refine ⟨fun m σ' H' => tS X.K W ca (whlL fc fb m) D σ' H', ⟨n, h⟩, ?_⟩
    rintro m σ' H' ⟨A0, F, s, r0, h⟩
    cases m with
    | zero => exact h.elim
    | succ m =>
      have h1 : OutS X.K W ca A0 F s σ' (Fo.of (fc s) fun k s1 => if k then match fb s1 with
        | .nx s2 => whlL fc fb m s2
        | .ct s2 => whlL fc fb m s2
        | .bk s2 => .nx s2
        | r => r
      else .nx s1) D := h
      refine ⟨A0, F, s, r0, h1.of.mono fun k A1 s1 H1 e1 k1 r1 h2 => ?_⟩
      cases k with
      | false => rw [if_neg Bool.false_ne_true] at h2 ⊢; exact h2 A1 H1 σ' .refl .refl r1
      | true =>
        rw [if_pos rfl] at h2 ⊢
        refine ⟨fun σ2 H2 => tS X.K W ca (whlL fc fb m) D σ2 H2, fun σ2 H2 hn => ⟨m, Nat.lt_succ_self m, hn⟩, A1, F, s1, r1, ?_⟩
        cases hb : fb s1 with
        | bad => rw [hb] at h2; exact h2
        | nx s4 => rw [hb] at h2; exact fun A4 H4 σ4 e4 k4 r4 => ⟨A4, F, s4, r4, OutS.step h2 e4 k4⟩
        | ct s4 => rw [hb] at h2; exact fun A4 H4 σ4 e4 k4 r4 => ⟨A4, F, s4, r4, OutS.step h2 e4 k4⟩
        | bk s4 => rw [hb] at h2; exact h2
        | rt v s4 => rw [hb] at h2; exact h2
        | ex c s4 => rw [hb] at h2; exact h2
end
end Z

/-! Z: from the program's syntax to Z's, expressions. -/
namespace Z
open PySem PySem.Spec PyProof.Rows L2

/-- what a body's names are -/
structure Cc where
  N : List Str
  sc : Scope
  st : Option Scope
  fns : List (Str × Nat)
  cns : List (Str × D)
  exs : List (Str × Nat)
def ixS : List Str → Str → Option Nat
  | [], _ => none
  | y :: r, x => if y = x then some 0 else (ixS r x).map (· + 1)
theorem ixS_get : ∀ {N : List Str} {x : Str} {i : Nat}, ixS N x = some i → N[i]? = some x
  | y :: r, x, i, h => by
    unfold ixS at h
    split at h
    · rename_i e; cases h; rw [e]; rfl
    · obtain ⟨j, h1, h2⟩ := Option.map_eq_some_iff.mp h
      subst h2
      simpa using ixS_get h1
def visB (sc : Scope) (x : Str) : Bool := decide (sc.names.lookup x = some .local) || decide (sc.names.lookup x = some .cell) || decide (sc.names.lookup x = some .free)
theorem visB_ok {sc : Scope} {x : Str} (h : visB sc x = true) : Vis sc x := by
  simp only [visB, Bool.or_eq_true, decide_eq_true_eq] at h
  rcases h with (h | h) | h
  · exact .inl h
  · exact .inr (.inl h)
  · exact .inr (.inr h)
def glB (sc : Scope) (x : Str) : Bool := decide (sc.names.lookup x = some .globalImplicit)
theorem glB_ok {X : Cx} {x : Str} (h : glB X.env.scope x = true) : Gl X x := by
  unfold glB at h
  exact of_decide_eq_true (p := X.env.scope.names.lookup x = some .globalImplicit) h
def fnB (c : Cc) (x : Str) : Bool := match c.st with
  | none => true
  | some s => s.names.lookup x == some .cell
def locB (c : Cc) (x : Str) : Bool := decide (c.sc.names.lookup x = some .local) || (decide (c.sc.names.lookup x = some .cell) && fnB c x)
def nostar : Expr → Bool
  | .Starred .. => false
  | _ => true
def noSl : Expr → Bool
  | .Slice .. => false
  | _ => true
def noIf : Expr → Bool
  | .IfExp .. => false
  | _ => true
def noSet : Expr → Bool
  | .Set .. => false
  | _ => true
def noCall : Expr → Bool
  | .Call (.Name id _) _ _ _ => id != ("super" : Str)
  | .Call .. => false
  | _ => true
def isTup : Expr → Bool
  | .Tuple .. => true
  | _ => false
theorem nostar_ok {e : Expr} {es : List Expr} {env : Env} (h : nostar e = true) : starEach (e :: es) env = (false, eval e env) :: starEach es env := by
  cases e <;> first | rfl | cases h
theorem noSl_ok {e : Expr} (h : noSl e = true) : PlainIx e := fun o i => by
  cases e <;> first | rfl | cases h
theorem noSet_ok {e : Expr} {env : Env} (h : noSet e = true) (x : Value) : foldedSetIterable e env x = pure x := by
  cases e <;> first | rfl | cases h
theorem star_all {env : Env} {pos : Pos} : ∀ {es : List Expr}, es.all nostar = true → (backTo pos (starEach es env)).any (·.1) = false ∧ (backTo pos (starEach es env)).all (fun x => !x.1) = true
  | [], _ => ⟨rfl, rfl⟩
  | e :: es, h => by
    rw [List.all_cons, Bool.and_eq_true] at h
    rw [nostar_ok h.1]
    obtain ⟨h1, h2⟩ := star_all (env := env) (pos := pos) h.2
    exact ⟨by show (false || (backTo pos (starEach es env)).any (·.1)) = false; rw [h1]; rfl, by show (true && (backTo pos (starEach es env)).all (fun x => !x.1)) = true; rw [h2]; rfl⟩
def bopOf : Operator → Option BOp
  | .Add => some .add | .Sub => some .sub | .Mult => some .mul | .FloorDiv => some .fdiv | .Mod => some .mod | .Pow => some .pow | .LShift => some .shl | .RShift => some .shr | .BitAnd => some .band | .BitOr => some .bor | .BitXor => some .bxor
  | _ => none
theorem bopOf_ok {o : Operator} {b : BOp} (h : bopOf o = some b) : bop b = o := by cases o <;> first | (cases h; rfl) | cases h
def copOf : CmpOp → Option COp
  | .Eq => some .eq | .NotEq => some .ne | .Lt => some .lt | .LtE => some .le | .Gt => some .gt | .GtE => some .ge | .In => some .inn | .NotIn => some .nin
  | _ => none
theorem copOf_ok {o : CmpOp} {b : COp} (h : copOf o = some b) : cop b = o := by cases o <;> first | (cases h; rfl) | cases h
def conD : Const → Option D
  | .none => some .non
  | .bool b => some (.bl b)
  | .int i => some (.int i)
  | .str s => if s.cps.toList.all (fun c => decide (c < 1114112)) then some (.str s.cps.toList) else none
  | _ => none
def bltT : List (Str × Nat × Blt) := [("len", 1, .len), ("list", 1, .list), ("tuple", 1, .tuple), ("str", 1, .str), ("int", 1, .int), ("abs", 1, .abs), ("min", 2, .min2), ("max", 2, .max2), ("sum", 1, .sum), ("sorted", 1, .sorted), ("all", 1, .all), ("any", 1, .any)]
def bltNs : List Str := ["len", "list", "tuple", "str", "int", "abs", "min", "max", "sum", "sorted", "all", "any", "range", "enumerate", "zip", "isinstance", "bool"]
def metT : List (Str × Nat × Met) := [("append", 1, .append), ("pop", 0, .pop), ("pop", 1, .popAt), ("index", 1, .index), ("join", 1, .join), ("find", 1, .find1), ("startswith", 1, .swith), ("endswith", 1, .ewith), ("reverse", 0, .reverse), ("clear", 0, .clear), ("insert", 2, .insert), ("find", 2, .find2), ("rfind", 1, .rfind), ("count", 1, .count), ("split", 1, .split)]
def tabOf {β : Type} (T : List (Str × Nat × β)) (x : Str) (n : Nat) : Option β := (T.find? fun p => decide (p.1 = x) && p.2.1 == n).map (·.2.2)
theorem tabOf_ok {β : Type} {T : List (Str × Nat × β)} {x : Str} {n : Nat} {b : β} (h : tabOf T x n = some b) : (x, n, b) ∈ T := by
  obtain ⟨p, h1, h2⟩ := Option.map_eq_some_iff.mp h
  have h3 := List.find?_some h1
  have h4 := List.mem_of_find?_eq_some h1
  simp only [Bool.and_eq_true, decide_eq_true_eq, beq_iff_eq] at h3
  obtain ⟨a, k, c⟩ := p
  obtain ⟨h5, h6⟩ := h3
  dsimp only at h5 h6 h2
  subst h5 h6 h2
  exact h4
abbrev bltOf (x : Str) (n : Nat) : Option Blt := tabOf bltT x n
abbrev metOf (x : Str) (n : Nat) : Option Met := tabOf metT x n
theorem bltOf_ok {x : Str} {n : Nat} {f : Blt} (h : bltOf x n = some f) : bNm f = x ∧ x ∈ bltNs := by
  have h1 := tabOf_ok h
  have h2 : ∀ p ∈ bltT, bNm p.2.2 = p.1 ∧ p.1 ∈ bltNs := by decide +kernel
  exact h2 _ h1
theorem metOf_ok {x : Str} {n : Nat} {m : Met} (h : metOf x n = some m) : mNm m = x := by
  have h1 := tabOf_ok h
  have h2 : ∀ p ∈ metT, mNm p.2.2 = p.1 := by decide +kernel
  exact h2 _ h1
def tyOfS (x : Str) : Option Ty := if x = "int" then some .int else if x = "bool" then some .bool else if x = "str" then some .str else if x = "tuple" then some .tuple else if x = "list" then some .list else none
theorem tyOfS_ok {x : Str} {t : Ty} (h : tyOfS x = some t) : x = tyN t ∧ x ∈ bltNs := by
  have mem : ∀ t : Ty, (tyN t : Str) ∈ bltNs := fun t => by cases t <;> decide +kernel
  have e : x = tyN t := by
    unfold tyOfS at h
    repeat' split at h
    all_goals first | (cases h; done) | (cases h; assumption)
  exact ⟨e, e ▸ mem t⟩
/-! lists -/
def cExs (f : Expr → Option Ex) : List Expr → Option Exs
  | [] => some .nil
  | e :: r => if nostar e then (f e).bind fun x => (cExs f r).map (.cons x) else none
def cBo (f : Expr → Option Ex) (o : PySem.BoolOp) : List Expr → Option Ex
  | [] => none
  | e :: r => if noIf e then (f e).bind fun x => match r with
      | [] => some x
      | e2 :: r2 => (cBo f o (e2 :: r2)).map fun y => match o with
        | .And => .and x y
        | .Or => .or x y
    else none
def cOp (f : Expr → Option Ex) : Option Expr → Option Exo
  | none => some .no
  | some e => (f e).map .so
mutual
def cTg (c : Cc) : Nat → Expr → Option Tg
  | 0, _ => none
  | n + 1, e => match e with
    | .Name x _ => if locB c x then (ixS c.N x).map .var else none
    | .Tuple es _ _ => (cTgs c n es).map .tup
    | _ => none
def cTgs (c : Cc) : Nat → List Expr → Option Tgs
  | _, [] => some .nil
  | 0, _ :: _ => none
  | n + 1, e :: r => (cTg c n e).bind fun t => (cTgs c n r).map (.cons t)
end
def tgNames : Nat → Expr → List Str
  | 0, _ => []
  | n + 1, e => match e with
    | .Name x _ => [x]
    | .Tuple es _ _ => es.flatMap (tgNames n)
    | _ => []
def ownOf (N : List Str) : List Str → Option (List (Str × Nat))
  | [] => some []
  | x :: r => (ixS N x).bind fun i => (ownOf N r).map ((x, i) :: ·)
/-- what is walked -/
def cIt (f : Expr → Option Ex) (c : Cc) (tg : Expr) (it : Expr) : Option (IK × Exs) := match it with
  | .Call (.Name x _) es [] _ =>
    if glB c.sc x && (c.fns.lookup x).isNone then
      if x = "range" then (match es with
        | [_] => (cExs f es).map fun a => (.rng1, a)
        | [_, _] => (cExs f es).map fun a => (.rng2, a)
        | [_, _, _] => (cExs f es).map fun a => (.rng3, a)
        | _ => none)
      else if x = "enumerate" then (match es with
        | [_] => if isTup tg then (cExs f es).map fun a => (.enm, a) else none
        | _ => none)
      else if x = "zip" then (match es with
        | [_, _] => if isTup tg then (cExs f es).map fun a => (.zip, a) else none
        | _ => none)
      else (cExs f [it]).map fun a => (.seq, a)
    else (cExs f [it]).map fun a => (.seq, a)
  | it => (cExs f [it]).map fun a => (.seq, a)
def jnm : Met → List Expr → Bool
  | .join, [.Name ..] => true
  | _, _ => false
theorem jnm_ok {m : Met} {es : List Expr} (h : jnm m es = true) : m = .join ∧ ∃ e, es = [e] := by
  unfold jnm at h
  split at h
  · exact ⟨rfl, _, rfl⟩
  · cases h
def comp : Nat → Cc → Expr → Option Ex
  | 0, _, _ => none
  | n + 1, c, e => match e with
    | .Constant k _ _ => (conD k).map .cst
    | .Name x _ => if visB c.sc x then (if x = "__debug__" ∨ x = "__classdict__" then none else (ixS c.N x).map .var) else if glB c.sc x then (if x = "__debug__" then none else (c.cns.lookup x).map .cst) else none
    | .BinOp a o b _ => (bopOf o).bind fun o' => (comp n c a).bind fun x => (comp n c b).map fun y => .bin o' x y
    | .UnaryOp .USub a _ => (comp n c a).map .neg
    | .UnaryOp .Not a _ => if noIf a then (comp n c a).map .not else none
    | .BoolOp o es _ => cBo (comp n c) o es
    | .Compare a [.Is] [.Constant .none _ _] _ => (comp n c a).map .isN
    | .Compare a [.IsNot] [.Constant .none _ _] _ => (comp n c a).map .notN
    | .Compare a [o] [b] _ => if behindInMarks o b then none else (copOf o).bind fun o' => (comp n c a).bind fun x => (comp n c b).map fun y => .cmp o' x y
    | .Compare a [o, o2] [b, d] _ => if lastMarks [o, o2] [b, d] then none else (copOf o).bind fun o' => (copOf o2).bind fun o2' => (comp n c a).bind fun x => (comp n c b).bind fun y => (comp n c d).map fun z => .chn o' o2' x y z
    | .IfExp t a b _ => if noIf t then (comp n c t).bind fun x => (comp n c a).bind fun y => (comp n c b).map fun z => .ife x y z else none
    | .Tuple es _ _ => (cExs (comp n c) es).map .tup
    | .List es _ => (cExs (comp n c) es).map .lst
    | .Subscript a (.Slice lo hi none _) _ => (comp n c a).bind fun x => (cOp (comp n c) lo).bind fun l => (cOp (comp n c) hi).map fun h => .slc x l h
    | .Subscript a i _ => if noSl i then (comp n c a).bind fun x => (comp n c i).map fun y => .idx x y else none
    | .Call (.Name x _) es [] _ => if glB c.sc x && !(x == ("__debug__" : Str)) then (match c.fns.lookup x with
        | some f => (cExs (comp n c) es).map fun a => .call f a
        | none => if x = "isinstance" then (match es with
            | [a, .Name y _] => if glB c.sc y && nostar a then (tyOfS y).bind fun t => (comp n c a).map fun u => .isi u [t] else none
            | _ => none)
          else if es.isEmpty then none else (bltOf x es.length).bind fun f => (cExs (comp n c) es).map fun a => .blt f a)
      else none
    | .Call (.Attribute o m ap) es [] pos => if noCall o && decide (es.length < 30) && (ap.endLine == pos.line) then (metOf m es.length).bind fun m' => (comp n c o).bind fun x => (cExs (comp n c) es).map fun a => if jnm m' es then .joi x a else .met m' x a else none
    | .ListComp elt [g] scope _ => if g.is_async = 0 ∧ noSet g.iter = true then (ownOf c.N (tgNames 9 g.target)).bind fun own => if blkC c.N c.sc scope own then
        (cIt (comp n c) c g.target g.iter).bind fun it => (cTg { c with sc := relS scope c.sc, st := some scope } 9 g.target).bind fun t => if (tgV t).all (fun i => (own.map (·.2)).contains i) then
          (show Option Ex from match g.ifs with
            | [] => some (.cst (.bl true))
            | [d] => if noIf d then comp n { c with sc := relS scope c.sc, st := some scope } d else none
            | _ => none).bind fun d => (comp n { c with sc := relS scope c.sc, st := some scope } elt).map fun y => .lc y t it.1 it.2 d (own.map (·.2))
          else none
        else none
      else none
    | _ => none
end Z

/-! Z: what is told of the program's syntax is true, expressions. -/
namespace Z
open PySem PySem.Spec PyProof.Rows L2

structure CK (X : Cx) (W : WX) (ca : Nat → Value) (c : Cc) (cf : Nat → List Slot → Co) : Prop where
  N : X.N = c.N
  nd : X.N.Nodup
  sc : X.env.scope = c.sc
  fn : ∀ x, fnB c x = true → X.fn x = true
  calm : X.calm = true
  units : X.A.units + 64 < cLine
  tk : Takes X W
  cns : ∀ x d, c.cns.lookup x = some d → ∃ v u, X.mg x = some u ∧ RelV v u ∧ ∀ A0, Rep X.K A0 d v
  fns : ∀ x i, c.fns.lookup x = some i → ∃ k f fd ps, FnOk X.prog X.w X.K X.mg X.base (L2.CX X.prog X.w) k f fd ps (spF X.K ca cf i) ∧ Room k X.A ∧ X.mg x = some (.ref f) ∧ PySem.W.keepIn X.K (.ref f) = true ∧ Binds X.K fd ps []
  blt : ∀ x ∈ bltNs, X.mg x = none
  exs : ∀ x i, c.exs.lookup x = some i → ∃ C : Addr, ca i = .ref C ∧ X.mg x = some (.ref C) ∧ PySem.W.excIn X.K C [.type "ValueError", .type "Exception", .type "BaseException", .type "object"] "ValueError.__new__" = true ∧ PySem.W.keepIn X.K (.ref C) = true ∧ Raises X (.ref C) ∧ PySem.W.exmOne X.K (.ref C) (.ref C) = some true
section
variable {X : Cx} {W : WX} {ca : Nat → Value} {c : Cc} {cf : Nat → List Slot → Co} {f : Expr → Option Ex}
/-- what f tells is true -/
abbrev FOk (X : Cx) (W : WX) (ca : Nat → Value) (cf : Nat → List Slot → Co) (f : Expr → Option Ex) : Prop := ∀ e x, f e = some x → SE X W ca e (ev cf x) ∧ (noIf e = true → ST X W ca e (tst (ev cf x)))
theorem cExs_ok (hf : FOk X W ca cf f) : ∀ {es : List Expr} {a : Exs}, cExs f es = some a → SA X W ca es (evs cf a) ∧ SF X W ca es (evF cf a) ∧ es.all nostar = true
  | [], a, h => by cases h; exact ⟨sa_nil, sf_nil, rfl⟩
  | e :: es, a, h => by
    unfold cExs at h
    split at h
    · rename_i hn
      obtain ⟨x, h1, h2⟩ := Option.bind_eq_some_iff.mp h
      obtain ⟨r, h3, h4⟩ := Option.map_eq_some_iff.mp h2
      subst h4
      obtain ⟨q1, q2, q3⟩ := cExs_ok hf h3
      exact ⟨sa_cons (hf e x h1).1 q1 (nostar_ok hn), sf_cons (hf e x h1).1 q2 (nostar_ok hn), by rw [List.all_cons, hn, q3]; rfl⟩
    · cases h
theorem cBo_ok (hf : FOk X W ca cf f) {o : PySem.BoolOp} {pos : Pos} : ∀ {es : List Expr} {x : Ex}, cBo f o es = some x → SE X W ca (.BoolOp o es pos) (ev cf x) ∧ SW X W ca (.BoolOp o es pos) (tst (ev cf x))
  | [], x, h => by cases h
  | [e], x, h => by
    unfold cBo at h
    split at h
    · rename_i hn
      obtain ⟨y, h1, h2⟩ := Option.bind_eq_some_iff.mp h
      cases h2
      refine ⟨se_one (hf e _ h1).1, ?_⟩
      cases o
      · exact sw_and1 ((hf e _ h1).2 hn)
      · exact sw_or1 ((hf e _ h1).2 hn)
    · cases h
  | e :: e2 :: es, x, h => by
    unfold cBo at h
    split at h
    · rename_i hn
      obtain ⟨y, h1, h2⟩ := Option.bind_eq_some_iff.mp h
      obtain ⟨z, h3, h4⟩ := Option.map_eq_some_iff.mp h2
      obtain ⟨q1, q2⟩ := cBo_ok hf h3
      cases o
      · cases h4; exact ⟨se_and (hf e _ h1).1 q1, sw_and ((hf e _ h1).2 hn) q2⟩
      · cases h4; exact ⟨se_or (hf e _ h1).1 q1, sw_or ((hf e _ h1).2 hn) q2⟩
    · cases h
theorem cOp_ok (hf : FOk X W ca cf f) {e : Option Expr} {x : Exo} (h : cOp f e = some x) : SO X W ca e (evo cf x) := by
  cases e with
  | none => cases h; exact so_no
  | some e =>
    obtain ⟨y, h1, h2⟩ := Option.map_eq_some_iff.mp h
    subst h2
    exact so_so (hf e y h1).1
/-! targets -/
theorem asg_each {e : Expr} {es : List Expr} {env : Env} (h : nostar e = true) : assignEach (e :: es) env = (false, assign e env) :: assignEach es env := by
  cases e <;> first | rfl | cases h
theorem locB_ok (k : CK X W ca c cf) {x : Str} (h : locB c x = true) : Loc X.env.scope x ∧ (X.fn x = true ∨ X.env.scope.names.lookup x = some .local) := by
  simp only [locB, Bool.or_eq_true, Bool.and_eq_true, decide_eq_true_eq] at h
  rw [← k.sc] at h
  rcases h with h | ⟨h, h2⟩
  · exact ⟨.inl h, .inr h⟩
  · exact ⟨.inr h, .inl (k.fn x h2)⟩
mutual
theorem cTg_ok (k : CK X W ca c cf) : ∀ {n : Nat} {e : Expr} {t : Tg}, cTg c n e = some t → PG X e (tG X.K t) ∧ nostar e = true
  | 0, _, _, h => by cases h
  | n + 1, e, t, h => by
    unfold cTg at h
    split at h
    · rename_i x p
      split at h
      · rename_i hl
        obtain ⟨i, h1, h2⟩ := Option.map_eq_some_iff.mp h
        subst h2
        obtain ⟨q1, q2⟩ := locB_ok k hl
        exact ⟨sg_var k.nd (by rw [k.N]; exact ixS_get h1) q1 q2, rfl⟩
      · cases h
    · rename_i es kk p
      obtain ⟨ts, h1, h2⟩ := Option.map_eq_some_iff.mp h
      subst h2
      obtain ⟨q1, q2, q3⟩ := cTgs_ok k h1
      exact ⟨sg_tup k.calm q1 q2 q3, rfl⟩
    · cases h
theorem cTgs_ok (k : CK X W ca c cf) : ∀ {n : Nat} {es : List Expr} {t : Tgs}, cTgs c n es = some t → PGs X es (tGs X.K t) ∧ (assignEach es X.env).length = tgN t ∧ (assignEach es X.env).findIdx? (·.1) = none
  | _, [], t, h => by
    unfold cTgs at h
    cases h
    exact ⟨sg_nil, rfl, rfl⟩
  | 0, _ :: _, t, h => by cases h
  | n + 1, e :: r, t, h => by
    unfold cTgs at h
    obtain ⟨t1, h1, h2⟩ := Option.bind_eq_some_iff.mp h
    obtain ⟨ts, h3, h4⟩ := Option.map_eq_some_iff.mp h2
    subst h4
    obtain ⟨q1, q2⟩ := cTg_ok k h1
    obtain ⟨q3, q4, q5⟩ := cTgs_ok k h3
    have e1 := asg_each (es := r) (env := X.env) q2
    refine ⟨sg_cons q1 q3 (by rw [e1]; rfl), by rw [e1]; exact congrArg (· + 1) q4, ?_⟩
    rw [e1, List.findIdx?_cons, q5]
    rfl
end
theorem all1 {a : Expr} {es : List Expr} {env : Env} (h : (a :: es).all nostar = true) : starEach (a :: es) env = (false, eval a env) :: starEach es env ∧ es.all nostar = true := by
  rw [List.all_cons, Bool.and_eq_true] at h
  exact ⟨nostar_ok h.1, h.2⟩
theorem cIt_ok (k : CK X W ca c cf) (hf : FOk X W ca cf f) {tg it : Expr} {p : IK × Exs} (h : cIt f c tg it = some p) : PI X tg it (tI X.K W ca (evI p.1 (evs cf p.2))) := by
  have seq : ∀ {q : IK × Exs}, ((cExs f [it]).map fun a => (IK.seq, a)) = some q → PI X tg it (tI X.K W ca (evI q.1 (evs cf q.2))) := by
    intro q h
    obtain ⟨a, h1, h2⟩ := Option.map_eq_some_iff.mp h
    subst h2
    unfold cExs at h1
    split at h1
    · obtain ⟨x, h3, h4⟩ := Option.bind_eq_some_iff.mp h1
      obtain ⟨r, h5, h6⟩ := Option.map_eq_some_iff.mp h4
      cases h5
      subst h6
      exact pi_seq (hf it x h3).1
    · cases h1
  unfold cIt at h
  split at h
  · rename_i x px es pc
    split at h
    · rename_i hg
      rw [Bool.and_eq_true] at hg
      have hgl : Gl X x := glB_ok (by rw [k.sc]; exact hg.1)
      split at h
      · rename_i hx
        subst hx
        have hm := k.blt "range" (by decide +kernel)
        split at h
        · obtain ⟨a, h1, h2⟩ := Option.map_eq_some_iff.mp h
          subst h2
          obtain ⟨q1, _, q3⟩ := cExs_ok hf h1
          exact pi_rng1 hgl hm q1 (by rw [(all1 q3).1]; rfl)
        · obtain ⟨a, h1, h2⟩ := Option.map_eq_some_iff.mp h
          subst h2
          obtain ⟨q1, _, q3⟩ := cExs_ok hf h1
          exact pi_rng2 hgl hm q1 (by rw [(all1 q3).1, (all1 (all1 (env := X.env) q3).2).1]; rfl) (by rw [(all1 (all1 (env := X.env) q3).2).1]; rfl)
        · obtain ⟨a, h1, h2⟩ := Option.map_eq_some_iff.mp h
          subst h2
          obtain ⟨q1, _, q3⟩ := cExs_ok hf h1
          exact pi_rng3 hgl hm q1 (all1 q3).1 (star_all (all1 (env := X.env) q3).2).1
        · cases h
      · split at h
        · rename_i hx
          subst hx
          have hm := k.blt "enumerate" (by decide +kernel)
          split at h
          · split at h
            · rename_i htg
              obtain ⟨a, h1, h2⟩ := Option.map_eq_some_iff.mp h
              subst h2
              obtain ⟨q1, _, q3⟩ := cExs_ok hf h1
              cases tg <;> first
                | (cases htg; done)
                | exact pi_enm hgl hm q1 (by rw [(all1 q3).1]; rfl)
            · cases h
          · cases h
        · split at h
          · rename_i hx
            subst hx
            have hm := k.blt "zip" (by decide +kernel)
            split at h
            · split at h
              · rename_i htg
                obtain ⟨a, h1, h2⟩ := Option.map_eq_some_iff.mp h
                subst h2
                obtain ⟨q1, _, q3⟩ := cExs_ok hf h1
                cases tg <;> first
                  | (cases htg; done)
                  | exact pi_zp hgl hm q1 (all1 q3).1 (star_all (all1 (env := X.env) q3).2).1
              · cases h
            · cases h
          · exact seq h
    · exact seq h
  · exact seq h
/-- the block's own context -/
theorem CK.blk (k : CK X W ca c cf) (s : Shared) (H : Hp) (scope : Scope) (C : Addr) (cl : List (Str × Addr)) (fp : List Addr) : CK (X.blk s H scope (compEnvC scope cl C X.env) fp) WF ca { c with sc := relS scope c.sc, st := some scope } cf :=
  ⟨k.N, k.nd, by show relabel scope X.env = relS scope c.sc; rw [← k.sc]; rfl, fun x h => h, k.calm, k.units, takes0, k.cns, k.fns, k.blt, k.exs⟩
theorem CK.tr {W' : WX} (k : CK X W ca c cf) (pn : List (Addr × Obj)) (xe : Value → Shared → Prop) (tk : Takes (X.tr pn xe) W') : CK (X.tr pn xe) W' ca c cf :=
  ⟨k.N, k.nd, k.sc, k.fn, k.calm, k.units, tk, k.cns, k.fns, k.blt, k.exs⟩
theorem conD_ok {K : PySem.W.Frag} {j : Nat} {pos : Pos} {k : Const} {d : D} (h : conD k = some d) : SE X W ca (.Constant k j pos) (fun s => .ok (.v d) s) := by
  cases k with
  | none => cases h; exact se_cst pe_non fun _ => .non
  | bool b => cases h; exact se_cst pe_bl fun _ => .bl b
  | int i => cases h; exact se_cst pe_int fun _ => .int i
  | str x =>
    replace h : (if (x.cps.toList.all fun c => decide (c < 1114112)) = true then some (D.str x.cps.toList) else none) = some d := h
    split at h
    · rename_i hx
      cases h
      refine se_cst pe_str fun _ => ?_
      have e : V.str x = .str (sOf x.cps.toList) := by cases x; simp [sOf]
      rw [e]
      exact .str _ fun c hc => of_decide_eq_true (List.all_eq_true.mp hx c hc)
    · cases h
  | _ => cases h
theorem base_ok {o : Expr} {m : Str} {env : Env} (h : noCall o = true) : attributeBase o m env (eval o env) = eval o env := by
  cases o <;> first | rfl | (cases h; done) | skip
  case Call f as ks p =>
    cases f <;> first | (cases h; done) | skip
    case Name id q =>
      have hne : (id != ("super" : Str)) = true := h
      cases as with
      | cons => rfl
      | nil =>
        cases ks with
        | cons => rfl
        | nil =>
          unfold attributeBase
          simp [hne]
theorem in_own {own : List (Str × Nat)} {t : Tg} (h : (tgV t).all (fun i => (own.map (·.2)).contains i) = true) : ∀ i ∈ tgV t, i ∈ own.map (·.2) := fun i hi => by
  have := List.all_eq_true.mp h i hi
  simpa using this
theorem comp_ok {cf : Nat → List Slot → Co} {ca : Nat → Value} : ∀ (n : Nat) {X : Cx} {W : WX} {c : Cc} {e : Expr} {x : Ex}, CK X W ca c cf → comp n c e = some x → SE X W ca e (ev cf x) ∧ (noIf e = true → ST X W ca e (tst (ev cf x)))
  | 0, _, _, _, _, _, _, h => by cases h
  | n + 1, X, W, c, e, x, k, h => by
    have hf : FOk X W ca cf (comp n c) := fun e x h => comp_ok n k h
    unfold comp at h
    split at h
    · rename_i con j p
      obtain ⟨d, h1, h2⟩ := Option.map_eq_some_iff.mp h
      subst h2
      have q : SE X W ca (.Constant con j p) (ev cf (.cst d)) := conD_ok (K := X.K) h1
      exact ⟨q, fun _ => st_truth q fun _ => rfl⟩
    · rename_i y p
      split at h
      · rename_i hv
        split at h
        · cases h
        · rename_i hn
          rw [not_or] at hn
          obtain ⟨i, h1, h2⟩ := Option.map_eq_some_iff.mp h
          subst h2
          have q : SE X W ca (.Name y p) (ev cf (.var i)) := se_var (pe_var (by rw [k.N]; exact ixS_get h1) (visB_ok (by rw [k.sc]; exact hv)) (beq_eq_false_iff_ne.mpr hn.1) (beq_eq_false_iff_ne.mpr hn.2))
          exact ⟨q, fun _ => st_truth q fun _ => rfl⟩
      · split at h
        · rename_i hg
          split at h
          · cases h
          · rename_i hn
            obtain ⟨d, h1, h2⟩ := Option.map_eq_some_iff.mp h
            subst h2
            obtain ⟨v, u, q1, q2, q3⟩ := k.cns y d h1
            have q : SE X W ca (.Name y p) (ev cf (.cst d)) := se_cst (pe_glob (glB_ok (by rw [k.sc]; exact hg)) q1 q2 (beq_eq_false_iff_ne.mpr hn)) q3
            exact ⟨q, fun _ => st_truth q fun _ => rfl⟩
        · cases h
    · rename_i a o b p
      obtain ⟨o', h1, h2⟩ := Option.bind_eq_some_iff.mp h
      obtain ⟨y, h3, h4⟩ := Option.bind_eq_some_iff.mp h2
      obtain ⟨z, h5, h6⟩ := Option.map_eq_some_iff.mp h4
      subst h6
      have e1 := bopOf_ok h1
      subst e1
      have q : SE X W ca (.BinOp a (bop o') b p) (ev cf (.bin o' y z)) := se_bin (hf _ _ h3).1 (hf _ _ h5).1
      exact ⟨q, fun _ => st_truth q fun _ => rfl⟩
    · rename_i a p
      obtain ⟨y, h1, h2⟩ := Option.map_eq_some_iff.mp h
      subst h2
      have q : SE X W ca (.UnaryOp .USub a p) (ev cf (.neg y)) := se_neg (hf _ _ h1).1
      exact ⟨q, fun _ => st_truth q fun _ => rfl⟩
    · rename_i a p
      split at h
      · rename_i hn
        obtain ⟨y, h1, h2⟩ := Option.map_eq_some_iff.mp h
        subst h2
        exact ⟨se_not (hf _ _ h1).1, fun _ => st_not ((hf _ _ h1).2 hn)⟩
      · cases h
    · rename_i o es p
      obtain ⟨q1, q2⟩ := cBo_ok (pos := p) hf h
      exact ⟨q1, fun _ => q2.pt⟩
    · rename_i a j p1 p
      obtain ⟨y, h1, h2⟩ := Option.map_eq_some_iff.mp h
      subst h2
      exact ⟨se_isN (hf _ _ h1).1, fun _ => st_isN (hf _ _ h1).1⟩
    · rename_i a j p1 p
      obtain ⟨y, h1, h2⟩ := Option.map_eq_some_iff.mp h
      subst h2
      exact ⟨se_notN (hf _ _ h1).1, fun _ => st_notN (hf _ _ h1).1⟩
    · rename_i a o b p _ _
      split at h
      · cases h
      · rename_i hm
        obtain ⟨o', h1, h2⟩ := Option.bind_eq_some_iff.mp h
        obtain ⟨y, h3, h4⟩ := Option.bind_eq_some_iff.mp h2
        obtain ⟨z, h5, h6⟩ := Option.map_eq_some_iff.mp h4
        subst h6
        have e1 := copOf_ok h1
        subst e1
        have hm' : behindInMarks (cop o') b = false := by simpa using hm
        exact ⟨se_cmp k.units (hf _ _ h3).1 (hf _ _ h5).1 hm', fun _ => st_toV (st_cmp k.units (hf _ _ h3).1 (hf _ _ h5).1 hm')⟩
    · rename_i a o o2 b d p
      split at h
      · cases h
      · rename_i hm
        obtain ⟨o', h1, h2⟩ := Option.bind_eq_some_iff.mp h
        obtain ⟨o2', h3, h4⟩ := Option.bind_eq_some_iff.mp h2
        obtain ⟨y, h5, h6⟩ := Option.bind_eq_some_iff.mp h4
        obtain ⟨z, h7, h8⟩ := Option.bind_eq_some_iff.mp h6
        obtain ⟨u, h9, h10⟩ := Option.map_eq_some_iff.mp h8
        subst h10
        have e1 := copOf_ok h1
        have e2 := copOf_ok h3
        subst e1 e2
        have hm' : lastMarks [cop o', cop o2'] [b, d] = false := by simpa using hm
        exact ⟨se_chn k.units (hf _ _ h5).1 (hf _ _ h7).1 (hf _ _ h9).1 hm', fun _ => st_toV (st_chn k.units (hf _ _ h5).1 (hf _ _ h7).1 (hf _ _ h9).1 hm')⟩
    · rename_i t a b p
      split at h
      · rename_i hn
        obtain ⟨y, h1, h2⟩ := Option.bind_eq_some_iff.mp h
        obtain ⟨z, h3, h4⟩ := Option.bind_eq_some_iff.mp h2
        obtain ⟨u, h5, h6⟩ := Option.map_eq_some_iff.mp h4
        subst h6
        exact ⟨se_ife ((hf _ _ h1).2 hn) (hf _ _ h3).1 (hf _ _ h5).1, fun q => by cases q⟩
      · cases h
    · rename_i es j p
      obtain ⟨a, h1, h2⟩ := Option.map_eq_some_iff.mp h
      subst h2
      have q : SE X W ca (.Tuple es j p) (ev cf (.tup a)) := se_tup (cExs_ok hf h1).2.1
      exact ⟨q, fun _ => st_truth q fun _ => rfl⟩
    · rename_i es p
      obtain ⟨a, h1, h2⟩ := Option.map_eq_some_iff.mp h
      subst h2
      have q : SE X W ca (.List es p) (ev cf (.lst a)) := se_lst (cExs_ok hf h1).2.1
      exact ⟨q, fun _ => st_truth q fun _ => rfl⟩
    · rename_i a lo hi p1 p
      obtain ⟨y, h1, h2⟩ := Option.bind_eq_some_iff.mp h
      obtain ⟨l, h3, h4⟩ := Option.bind_eq_some_iff.mp h2
      obtain ⟨u, h5, h6⟩ := Option.map_eq_some_iff.mp h4
      subst h6
      have q : SE X W ca (.Subscript a (.Slice lo hi none p1) p) (ev cf (.slc y l u)) := se_slc (hf _ _ h1).1 (cOp_ok hf h3) (cOp_ok hf h5)
      exact ⟨q, fun _ => st_truth q fun _ => rfl⟩
    · rename_i a i p _
      split at h
      · rename_i hn
        obtain ⟨y, h1, h2⟩ := Option.bind_eq_some_iff.mp h
        obtain ⟨z, h3, h4⟩ := Option.map_eq_some_iff.mp h2
        subst h4
        have q : SE X W ca (.Subscript a i p) (ev cf (.idx y z)) := se_idx (hf _ _ h1).1 (hf _ _ h3).1 (noSl_ok hn)
        exact ⟨q, fun _ => st_truth q fun _ => rfl⟩
      · cases h
    · rename_i y p1 es p
      split at h
      · rename_i hg
        rw [Bool.and_eq_true, Bool.not_eq_true'] at hg
        have hgl : Gl X y := glB_ok (by rw [k.sc]; exact hg.1)
        split at h
        · rename_i fi hfi
          obtain ⟨a, h1, h2⟩ := Option.map_eq_some_iff.mp h
          subst h2
          obtain ⟨kk, fa, fd, ps, F, hr, hm, hk, hb⟩ := k.fns y fi hfi
          obtain ⟨q1, _, q3⟩ := cExs_ok hf h1
          have q : SE X W ca (.Call (.Name y p1) es [] p) (ev cf (.call fi a)) := by
            cases es with
            | nil => cases h1; exact se_call0 k.tk F hr hgl hm hk hb hg.2
            | cons e1 es => exact se_call k.tk F hr hgl hm hk hb q1 hg.2 (all1 q3).1 (star_all (all1 (env := X.env) q3).2).1
          exact ⟨q, fun _ => st_truth q fun _ => rfl⟩
        · split at h
          · rename_i hx
            subst hx
            split at h
            · rename_i a y pt
              split at h
              · rename_i hy
                rw [Bool.and_eq_true] at hy
                obtain ⟨t, h1, h2⟩ := Option.bind_eq_some_iff.mp h
                obtain ⟨u, h3, h4⟩ := Option.map_eq_some_iff.mp h2
                subst h4
                obtain ⟨e1, e2⟩ := tyOfS_ok h1
                have q : SE X W ca (.Call (.Name "isinstance" p1) [a, .Name y pt] [] p) (ev cf (.isi u [t])) :=
                  se_isi t e1 hgl (k.blt "isinstance" (by decide +kernel)) (glB_ok (by rw [k.sc]; exact hy.1)) (k.blt y e2) (hf _ _ h3).1 (nostar_ok hy.2) rfl
                exact ⟨q, fun _ => st_truth q fun _ => rfl⟩
              · cases h
            · cases h
          split at h
          · cases h
          · rename_i he
            obtain ⟨bf, h1, h2⟩ := Option.bind_eq_some_iff.mp h
            obtain ⟨a, h3, h4⟩ := Option.map_eq_some_iff.mp h2
            subst h4
            obtain ⟨e1, e2⟩ := bltOf_ok h1
            have hm := k.blt y e2
            obtain ⟨q1, _, q3⟩ := cExs_ok hf h3
            have q : SE X W ca (.Call (.Name y p1) es [] p) (ev cf (.blt bf a)) := by
              cases es with
              | nil => exact absurd rfl he
              | cons e1' es =>
                subst e1
                exact se_blt bf k.calm hgl hm q1 (all1 q3).1 (star_all (all1 (env := X.env) q3).2).1
            exact ⟨q, fun _ => st_truth q fun _ => rfl⟩
      · cases h
    · rename_i o m ap es p
      split at h
      · rename_i hc
        rw [Bool.and_eq_true, Bool.and_eq_true, decide_eq_true_eq] at hc
        obtain ⟨⟨hc1, hc2⟩, hc3⟩ := hc
        obtain ⟨m', h1, h2⟩ := Option.bind_eq_some_iff.mp h
        obtain ⟨y, h3, h4⟩ := Option.bind_eq_some_iff.mp h2
        obtain ⟨a, h5, h6⟩ := Option.map_eq_some_iff.mp h4
        subst h6
        have e1 := metOf_ok h1
        subst e1
        obtain ⟨_, q2, q3⟩ := cExs_ok hf h5
        have q : SE X W ca (.Call (.Attribute o (mNm m') ap) es [] p) (ev cf (if jnm m' es then .joi y a else .met m' y a)) := by
          by_cases hj : jnm m' es = true
          · rw [if_pos hj]
            obtain ⟨rfl, e1, rfl⟩ := jnm_ok hj
            refine se_joi (hf _ _ h3).1 (cExs_ok hf h5).1 (base_ok hc1) ?_ hc3 (all1 q3).1 (star_all (all1 (env := X.env) q3).2).1
            rw [(star_all q3).2]
            simp only [Bool.true_and, Bool.and_eq_true, decide_eq_true_eq]
            exact ⟨rfl, by simpa using hc2⟩
          rw [if_neg hj]
          cases es with
          | nil => cases h5; exact se_met0 m' (hf _ _ h3).1 (base_ok hc1) hc3
          | cons e1 es =>
            refine se_met m' (hf _ _ h3).1 q2 (base_ok hc1) ?_ hc3 (all1 q3).1 (star_all (all1 (env := X.env) q3).2).1
            rw [(star_all q3).2]
            simp only [Bool.true_and, Bool.and_eq_true, decide_eq_true_eq]
            exact ⟨rfl, by simpa using hc2⟩
        exact ⟨q, fun _ => st_truth q fun _ => rfl⟩
      · cases h
    · rename_i elt g scope p
      split at h
      · rename_i hg
        obtain ⟨hg1, hg2⟩ := hg
        obtain ⟨own, h1, h2⟩ := Option.bind_eq_some_iff.mp h
        split at h2
        · rename_i hb
          obtain ⟨it, h3, h4⟩ := Option.bind_eq_some_iff.mp h2
          obtain ⟨t, h5, h6⟩ := Option.bind_eq_some_iff.mp h4
          split at h6
          · rename_i hv
            obtain ⟨d, h7, h8⟩ := Option.bind_eq_some_iff.mp h6
            obtain ⟨y, h9, h10⟩ := Option.map_eq_some_iff.mp h8
            subst h10
            obtain ⟨tg, iter, ifs, ia⟩ := g
            dsimp only at hg1 hg2 h1 h3 h5 h7
            subst hg1
            have q : SE X W ca (.ListComp elt [⟨tg, iter, ifs, 0⟩] scope p) (ev cf (.lc y t it.1 it.2 d (own.map (·.2)))) := by
              refine se_lc k.calm k.nd (cIt_ok k hf h3) (blkOk_by (by rw [k.N, k.sc]; exact hb)) (fun s H C cl fp => (cTg_ok (k.blk s H scope C cl fp) h5).1) (fun s H C cl fp => ?_) (fun s H C cl fp => (comp_ok n (k.blk s H scope C cl fp) h9).1) (fun x => noSet_ok hg2 x) (in_own hv)
              split at h7
              · cases h7; exact spts_nil
              · split at h7
                · rename_i hi
                  exact pts_one ((comp_ok n (k.blk s H scope C cl fp) h7).2 hi)
                · cases h7
              · cases h7
            exact ⟨q, fun _ => st_truth q fun _ => rfl⟩
          · cases h6
        · cases h2
      · cases h
    · cases h
end
end Z

/-! Z: from the program's syntax to Z's, statements. -/
namespace Z
open PySem PySem.Spec PyProof.Rows L2

def noLC : Expr → Bool
  | .ListComp .. => false
  | .SetComp .. => false
  | .DictComp .. => false
  | _ => true
theorem noLC_sw {e : Expr} {t : Option Expr} {l : Nat} {env : Env} (h : noLC e = true) : swapsWith e t l env = pure false := by
  cases e <;> first | rfl | cases h
theorem sub_sw {e a b : Expr} {p : Pos} {l : Nat} {env : Env} : swapsWithSole [.Subscript a b p] e l env = pure false := by
  cases e <;> rfl
theorem tup_sw {e : Expr} {ts : List Expr} {kk : Nat} {p : Pos} {l : Nat} {env : Env} : swapsWithSole [.Tuple ts kk p] e l env = pure false := by
  cases e <;> rfl
theorem sub_st {e a b : Expr} {p : Pos} {env : Env} : swappedStores [.Subscript a b p] e env = pure none := by
  cases e <;> rfl
theorem tup_st {e : Expr} {ts : List Expr} {kk : Nat} {p : Pos} {env : Env} (h : isTup e = false) : swappedStores [.Tuple ts kk p] e env = pure none := by
  cases e <;> first | rfl | cases h
def parB (sc : Scope) (x y : Str) (px py : Pos) (a b : Expr) : Bool :=
  decide (sc.kind = .function) && decide (sc.names.lookup x = some .local) && decide (sc.names.lookup y = some .local) && (py.line == px.line) && decide (x ≠ y) && nostar a && nostar b && !(([a, b] : List Expr).all (foldedForSure 8)) && !(([a, b] : List Expr).all (constantsAlone 8))
theorem par_st {env : Env} {x y : Str} {px py pt pt2 : Pos} {kt k2 : Nat} {a b : Expr} (h : parB env.scope x y px py a b = true) :
    swappedStores [.Tuple [.Name x px, .Name y py] kt pt] (.Tuple [a, b] k2 pt2) env = pure (some [x, y]) := by
  simp only [parB, Bool.and_eq_true, decide_eq_true_eq, Bool.not_eq_true'] at h
  obtain ⟨⟨⟨⟨⟨⟨⟨⟨h1, h2⟩, h3⟩, h4⟩, h5⟩, h6⟩, h7⟩, h8⟩, h9⟩ := h
  have kx : env.kindOf x = some .local := h2
  have ky : env.kindOf y = some .local := h3
  have hb : env.blockKind = .function := by unfold Env.blockKind; rw [h1]; rfl
  have hxy : (y == x) = false := beq_eq_false_iff_ne.mpr (Ne.symm h5)
  have hd : ([x, y] : List Str).eraseDups = [x, y] := by
    simp [List.eraseDups, List.eraseDupsBy, List.eraseDupsBy.loop, hxy]
  have e1 : (env.kindOf x == some NameKind.local && px.line == px.line) = true := by rw [kx]; simp
  have e2 : (env.kindOf y == some NameKind.local && py.line == px.line) = true := by rw [ky, h4]; rfl
  unfold swappedStores
  simp only [List.length_cons, List.length_nil, hb]
  rw [if_neg (by decide), if_neg (fun hh => by
    simp only [List.any_cons, List.any_nil, Bool.or_false, Bool.or_eq_true] at hh
    rcases hh with hh | hh
    · cases a <;> first | (cases h6; done) | cases hh
    · cases b <;> first | (cases h7; done) | cases hh)]
  simp only [List.head?_cons, Option.map_some, Option.getD_some, Expr.pos, List.filterMap_cons, List.filterMap_nil, e1, e2, if_true]
  rw [hd, if_neg (by simp), h8, h9]
  rfl
def celB (sc : Scope) (x : Str) (a b : Expr) : Bool := decide (sc.names.lookup x = some .cell) && nostar a && nostar b
theorem cel_st {env : Env} {x y : Str} {px py pt pt2 : Pos} {kt k2 : Nat} {a b : Expr} (h : celB env.scope x a b = true) :
    swappedStores [.Tuple [.Name x px, .Name y py] kt pt] (.Tuple [a, b] k2 pt2) env = pure none := by
  simp only [celB, Bool.and_eq_true, decide_eq_true_eq] at h
  obtain ⟨⟨h1, h6⟩, h7⟩ := h
  have kx : env.kindOf x = some .cell := h1
  have e1 : (env.kindOf x == some NameKind.local && px.line == px.line) = false := by rw [kx]; rfl
  unfold swappedStores
  simp only [List.length_cons, List.length_nil]
  split
  · rfl
  · rw [if_neg (fun hh => by
      simp only [List.any_cons, List.any_nil, Bool.or_false, Bool.or_eq_true] at hh
      rcases hh with hh | hh
      · cases a <;> first | (cases h6; done) | cases hh
      · cases b <;> first | (cases h7; done) | cases hh)]
    simp only [List.head?_cons, Option.map_some, Option.getD_some, Expr.pos, List.filterMap_cons, List.filterMap_nil, e1]
    by_cases e2 : (env.kindOf y == some NameKind.local && py.line == px.line) = true
    · simp only [e2, if_true, Bool.false_eq_true, if_false]
      exact if_pos rfl
    · simp only [e2, Bool.false_eq_true, if_false]
      exact if_pos rfl
mutual
def cSt : Nat → Cc → Stmt → Option Sx
  | 0, _, _ => none
  | n + 1, c, st => match st with
    | .Assign [.Name x p] e pos => if locB c x then (ixS c.N x).bind fun i => if noLC e then (comp n c e).map fun y => .asg (.var i) y else match e with
        | .ListComp elt gs scope lp => if c.sc.kind = .function ∧ c.sc.names.lookup x = some .local ∧ (p.line == lp.line) = true ∧ (scope.names.any fun (m, k) => m == x && (k == .local || k == .cell)) = false then (comp n c (.ListComp elt gs scope lp)).map fun y => .asg (.var i) y else none
        | _ => none
      else none
    | .Assign [.Tuple [.Name x px, .Name y py] kt pt] (.Tuple [a, b] k2 pt2) pos => if parB c.sc x y px py a b then (ixS c.N x).bind fun i => (ixS c.N y).bind fun j => if i = j then none else (comp n c a).bind fun u => (comp n c b).map fun v => .par i j u v else if celB c.sc x a b then (cTgs c 9 [.Name x px, .Name y py]).bind fun t => (comp n c (.Tuple [a, b] k2 pt2)).map fun y => .asg (.tup t) y else none
    | .Assign [.Tuple ts kt pt] e pos => if isTup e then none else (cTgs c 9 ts).bind fun t => (comp n c e).map fun y => .asg (.tup t) y
    | .Assign [.Subscript (.Name x px) ix tp] e pos => if visB c.sc x && noSl ix && !(x == ("__debug__" : Str)) && !(x == ("__classdict__" : Str)) then (ixS c.N x).bind fun i => (comp n c ix).bind fun u => (comp n c e).map fun v => .sub i u v else none
    | .Expr e _ => if noLC e then (comp n c e).map .exp else none
    | .Return none _ => some .retN
    | .Return (some e) _ => (comp n c e).map .ret
    | .If t a b _ => if noIf t then (comp n c t).bind fun x => (cSs n c a).bind fun y => (cSs n c b).map fun z => .iff x y z else none
    | .For tg it b [] _ => if noSet it then (cIt (comp n c) c tg it).bind fun i => (cTg c 9 tg).bind fun t => (cSs n c b).map fun y => .fors t i.1 i.2 y else none
    | .While t b [] _ => if noIf t then (comp n c t).bind fun x => (cSs n c b).map fun y => .whl x y else none
    | .Break _ => some .brk
    | .Continue _ => some .cnt
    | .Pass _ => some .pas
    | .Raise (some (.Call (.Name x _) [.Constant (.str _) _ _] [] _)) none _ => if glB c.sc x && !(x == ("__debug__" : Str)) then (match c.exs.lookup x with | some i => some (.rse i) | none => some .nev) else some .nev
    | .Raise .. => some .nev
    | .Try b [.ExceptHandler (some (.Name x _)) none [.Return (some (.Constant k _ _)) _] _] [] [] _ => if glB c.sc x && !(x == ("__debug__" : Str)) then (c.exs.lookup x).bind fun i => (conD k).bind fun d => (cSs n c b).map fun y => .tryx y i d else none
    | _ => none
def cSs : Nat → Cc → List Stmt → Option Ss
  | _, _, [] => some .nil
  | 0, _, _ :: _ => none
  | n + 1, c, st :: r => (cSt n c st).bind fun x => (cSs n c r).map fun y => .cons x y
end
theorem lc_parts {cf : Nat → List Slot → Co} {ca : Nat → Value} {n : Nat} {X : Cx} {W : WX} {c : Cc} {elt : Expr} {gs : List Comprehension} {scope : Scope} {p : Pos} {x : Ex} (k : CK X W ca c cf) (h : comp n c (.ListComp elt gs scope p) = some x) :
    ∃ tg iter ifs own t fi fc fe, gs = [⟨tg, iter, ifs, 0⟩] ∧ ev cf x = eLc t (own.map (·.2)) fi fc fe ∧ PI X tg iter (tI X.K W ca fi) ∧ BlkOk X.N X.env.scope scope own ∧
      (∀ (s : Shared) (H : Hp) (C : Addr) (cl : List (Str × Addr)) (fp : List Addr), PG (X.blk s H scope (compEnvC scope cl C X.env) fp) tg (tG X.K t)) ∧
      (∀ (s : Shared) (H : Hp) (C : Addr) (cl : List (Str × Addr)) (fp : List Addr), PTs (X.blk s H scope (compEnvC scope cl C X.env) fp) ifs (tT X.K WF ca fc)) ∧
      (∀ (s : Shared) (H : Hp) (C : Addr) (cl : List (Str × Addr)) (fp : List Addr), PE (X.blk s H scope (compEnvC scope cl C X.env) fp) elt (tE X.K WF ca fe)) ∧ (∀ x, foldedSetIterable iter X.env x = pure x) ∧ ∀ i ∈ tgV t, i ∈ own.map (·.2) := by
  cases n with
  | zero => cases h
  | succ n =>
    have hf : FOk X W ca cf (comp n c) := fun e x h => comp_ok n k h
    cases gs with
    | nil => unfold comp at h; cases h
    | cons g gs =>
      cases gs with
      | cons g2 gs => unfold comp at h; cases h
      | nil =>
        unfold comp at h
        dsimp only at h
        split at h
        · rename_i hg
          obtain ⟨hg1, hg2⟩ := hg
          obtain ⟨own, h1, h2⟩ := Option.bind_eq_some_iff.mp h
          split at h2
          · rename_i hb
            obtain ⟨it, h3, h4⟩ := Option.bind_eq_some_iff.mp h2
            obtain ⟨t, h5, h6⟩ := Option.bind_eq_some_iff.mp h4
            split at h6
            · rename_i hv
              obtain ⟨d, h7, h8⟩ := Option.bind_eq_some_iff.mp h6
              obtain ⟨y, h9, h10⟩ := Option.map_eq_some_iff.mp h8
              subst h10
              obtain ⟨tg, iter, ifs, ia⟩ := g
              dsimp only at hg1 hg2 h1 h3 h5 h7
              subst hg1
              refine ⟨tg, iter, ifs, own, t, _, _, _, rfl, rfl, cIt_ok k hf h3, blkOk_by (by rw [k.N, k.sc]; exact hb), fun s H C cl fp => (cTg_ok (k.blk s H scope C cl fp) h5).1, fun s H C cl fp => ?_, fun s H C cl fp => (comp_ok n (k.blk s H scope C cl fp) h9).1, fun x => noSet_ok hg2 x, in_own hv⟩
              split at h7
              · cases h7; exact spts_nil
              · split at h7
                · rename_i hi
                  exact pts_one ((comp_ok n (k.blk s H scope C cl fp) h7).2 hi)
                · cases h7
              · cases h7
            · cases h6
          · cases h2
        · cases h
theorem sub_as {a ix : Expr} {p : Pos} {env : Env} (h : noSl ix = true) (v : Value) : assign (.Subscript a ix p) env v = (do
      let ov ← holding [v] (eval a env)
      let iv ← holding [v, ov] (eval ix env)
      standAt p
      holding [v, ov, iv] (setItem ov iv v)
      release [v, ov, iv] []) := by
  cases ix <;> first | rfl | cases h
mutual
theorem cSt_ok {cf : Nat → List Slot → Co} {ca : Nat → Value} {c : Cc} : ∀ {n : Nat} {st : Stmt} {x : Sx} {X : Cx} {W : WX} (k : CK X W ca c cf) (hp : PassesOwn (model X.prog X.w) X.A X.env X.xe) (sk : X.stack = X.env :: X.outer ∧ X.env.frame = some X.env.locals), cSt n c st = some x → SSt X W ca st (xs cf x)
  | 0, _, _, _, _, _, _, _, h => by cases h
  | n + 1, st, x, X, W, k, hp, sk, h => by
    have hf : FOk X W ca cf (comp n c) := fun e x h => comp_ok n k h
    unfold cSt at h
    split at h
    · rename_i y p e pos
      split at h
      · rename_i hl
        obtain ⟨q1, q2⟩ := locB_ok k hl
        obtain ⟨i, h1, h2⟩ := Option.bind_eq_some_iff.mp h
        have hi : X.N[i]? = some y := by rw [k.N]; exact ixS_get h1
        split at h2
        · rename_i hn
          obtain ⟨u, h3, h4⟩ := Option.map_eq_some_iff.mp h2
          subst h4
          exact st_set k.nd hi q1 (hf _ _ h3).1 (noLC_sw hn) q2
        · split at h2
          · rename_i elt gs scope lp _
            split at h2
            · rename_i hcn
              obtain ⟨c1, c2, c3, c4⟩ := hcn
              obtain ⟨u, h3, h4⟩ := Option.map_eq_some_iff.mp h2
              subst h4
              obtain ⟨tg, iter, ifs, own, t, fi, fc, fe, rfl, e2, p1, p2, p3, p4, p5, p6, p7⟩ := lc_parts k h3
              have q := ps_setLc (py := p) (pos := lp) (spos := pos) k.calm k.nd hi (by rw [k.sc]; exact c2) (sw_true (by rw [k.sc]; exact c1) (by rw [k.sc]; exact c2) c3 c4) p1 p2 p3 p4 p5 p6
              refine PS.imp q fun D σ H h => ?_
              have h' := set_out (W := W) (ca := ca) (fe := ev cf u) h
              rw [e2] at h'
              exact lc_out p7 h'
            · cases h2
          · cases h2
      · cases h
    · rename_i y z px py kt pt a b k2 pt2 pos
      split at h
      · rename_i hpar
        obtain ⟨i, h1, h2⟩ := Option.bind_eq_some_iff.mp h
        obtain ⟨j, h3, h4⟩ := Option.bind_eq_some_iff.mp h2
        split at h4
        · cases h4
        · rename_i hij
          obtain ⟨u, h5, h6⟩ := Option.bind_eq_some_iff.mp h4
          obtain ⟨v, h7, h8⟩ := Option.map_eq_some_iff.mp h6
          subst h8
          have hpar' := hpar
          simp only [parB, Bool.and_eq_true, decide_eq_true_eq, Bool.not_eq_true'] at hpar'
          obtain ⟨⟨⟨⟨⟨⟨⟨⟨c1, c2⟩, c3⟩, c4⟩, c5⟩, c6⟩, c7⟩, c8⟩, c9⟩ := hpar'
          exact st_par k.calm k.nd (by rw [k.N]; exact ixS_get h1) (by rw [k.N]; exact ixS_get h3) hij (by rw [k.sc]; exact c2) (by rw [k.sc]; exact c3) (hf _ _ h5).1 (hf _ _ h7).1 (nostar_ok c6) (nostar_ok c7) (par_st (by rw [k.sc]; exact hpar)) tup_sw
      · split at h
        · rename_i hcel
          obtain ⟨t, h1, h2⟩ := Option.bind_eq_some_iff.mp h
          obtain ⟨u, h3, h4⟩ := Option.map_eq_some_iff.mp h2
          subst h4
          obtain ⟨q1, q2, q3⟩ := cTgs_ok k h1
          exact st_asg (hf _ _ h3).1 (sg_tup k.calm q1 q2 q3) tup_sw (cel_st (by rw [k.sc]; exact hcel)) rfl
        · cases h
    · rename_i ts kt pt e pos _
      split at h
      · cases h
      · rename_i ht
        obtain ⟨t, h1, h2⟩ := Option.bind_eq_some_iff.mp h
        obtain ⟨u, h3, h4⟩ := Option.map_eq_some_iff.mp h2
        subst h4
        obtain ⟨q1, q2, q3⟩ := cTgs_ok k h1
        exact st_asg (hf _ _ h3).1 (sg_tup k.calm q1 q2 q3) tup_sw (tup_st (by simpa using ht)) rfl
    · rename_i y px ix tp e pos
      split at h
      · rename_i hc
        simp only [Bool.and_eq_true, Bool.not_eq_true'] at hc
        obtain ⟨⟨⟨c1, c2⟩, c3⟩, c4⟩ := hc
        obtain ⟨i, h1, h2⟩ := Option.bind_eq_some_iff.mp h
        obtain ⟨u, h3, h4⟩ := Option.bind_eq_some_iff.mp h2
        obtain ⟨v, h5, h6⟩ := Option.map_eq_some_iff.mp h4
        subst h6
        exact st_sub (by rw [k.N]; exact ixS_get h1) (visB_ok (by rw [k.sc]; exact c1)) c3 c4 (hf _ _ h3).1 (hf _ _ h5).1 (sub_as c2) sub_sw sub_st rfl
      · cases h
    · rename_i e p
      split at h
      · rename_i hn
        obtain ⟨u, h1, h2⟩ := Option.map_eq_some_iff.mp h
        subst h2
        exact st_expr (hf _ _ h1).1 (noLC_sw hn)
      · cases h
    · cases h; exact st_retN
    · obtain ⟨u, h1, h2⟩ := Option.map_eq_some_iff.mp h
      subst h2
      exact st_ret (hf _ _ h1).1
    · rename_i t a b p
      split at h
      · rename_i hn
        obtain ⟨u, h1, h2⟩ := Option.bind_eq_some_iff.mp h
        obtain ⟨v, h3, h4⟩ := Option.bind_eq_some_iff.mp h2
        obtain ⟨w, h5, h6⟩ := Option.map_eq_some_iff.mp h4
        subst h6
        exact st_if ((hf _ _ h1).2 hn) (cSs_ok k hp sk h3) (cSs_ok k hp sk h5)
      · cases h
    · rename_i tg it b p
      split at h
      · rename_i hn
        obtain ⟨u, h1, h2⟩ := Option.bind_eq_some_iff.mp h
        obtain ⟨t, h3, h4⟩ := Option.bind_eq_some_iff.mp h2
        obtain ⟨v, h5, h6⟩ := Option.map_eq_some_iff.mp h4
        subst h6
        exact st_for hp k.calm (cIt_ok k hf h1) (cTg_ok k h3).1 (cSs_ok k hp sk h5) (fun x => noSet_ok hn x)
      · cases h
    · rename_i t b p
      split at h
      · rename_i hn
        obtain ⟨u, h1, h2⟩ := Option.bind_eq_some_iff.mp h
        obtain ⟨v, h3, h4⟩ := Option.map_eq_some_iff.mp h2
        subst h4
        exact st_while hp ((hf _ _ h1).2 hn) (cSs_ok k hp sk h3)
      · cases h
    · cases h; exact st_break
    · cases h; exact st_continue
    · cases h; exact st_pass
    · rename_i y p m j p2 p3 pos
      split at h
      · rename_i hc
        rw [Bool.and_eq_true] at hc
        have hgl := glB_ok (X := X) (by rw [k.sc]; exact hc.1)
        split at h
        · rename_i i hi
          cases h
          obtain ⟨C, q1, q2, q3, q4, q5, q6⟩ := k.exs _ _ hi
          refine st_rse k.calm k.tk ?_
          rw [q1]
          exact pmk_own PySem.F.excBase_ValueError q3 q2 q4 q5 hgl (by simpa using hc.2)
        · cases h; exact st_nev
      · cases h; exact st_nev
    · cases h; exact st_nev
    · rename_i b y p kk j p2 p3 p4 p5
      split at h
      · rename_i hc
        rw [Bool.and_eq_true] at hc
        have hgl := glB_ok (X := X) (by rw [k.sc]; exact hc.1)
        obtain ⟨i, h1, h2⟩ := Option.bind_eq_some_iff.mp h
        obtain ⟨d, h3, h4⟩ := Option.bind_eq_some_iff.mp h2
        obtain ⟨z, h5, h6⟩ := Option.map_eq_some_iff.mp h4
        subst h6
        obtain ⟨C, q1, q2, q3, q4, q5, q6⟩ := k.exs _ _ h1
        exact st_tryx sk.1 sk.2 ⟨hgl, by simpa using hc.2, .inl q2⟩ k.tk q1 q6 (fun X' e => st_ret (conD_ok (K := X.K) h3)) (fun W' pn xe t pp => cSs_ok (k.tr pn xe t) pp sk h5)
      · cases h
    · cases h
theorem cSs_ok {cf : Nat → List Slot → Co} {ca : Nat → Value} {c : Cc} : ∀ {n : Nat} {st : List Stmt} {x : Ss} {X : Cx} {W : WX} (k : CK X W ca c cf) (hp : PassesOwn (model X.prog X.w) X.A X.env X.xe) (sk : X.stack = X.env :: X.outer ∧ X.env.frame = some X.env.locals), cSs n c st = some x → SSs X W ca st (xss cf x)
  | _, [], x, _, _, _, _, _, h => by unfold cSs at h; cases h; exact ss_nil
  | 0, _ :: _, x, _, _, _, _, _, h => by cases h
  | n + 1, st :: r, x, X, W, k, hp, sk, h => by
    unfold cSs at h
    obtain ⟨u, h1, h2⟩ := Option.bind_eq_some_iff.mp h
    obtain ⟨v, h3, h4⟩ := Option.map_eq_some_iff.mp h2
    subst h4
    exact ss_cons (cSt_ok k hp sk h1) (cSs_ok k hp sk h3)
end
end Z

/-! Z: defs, the law. -/
namespace Z
open PySem PySem.Spec PyProof.Rows L2

section
variable (K : PySem.W.Frag) (mg : Str → Option Value) (P : List Df) (fns : List (Str × Nat)) (cns : List (Str × D)) (exs : List (Str × Nat)) (ca : Nat → Value)
structure Dfok (x : Str) (i : Nat) (f : Addr) (fd : FuncData) (ps : List Str) : Prop where
  ex : ∃ (qual : Str) (st : Stmt) (N : List Str) (d : Df) (n : Nat), Fun K x qual st f fd ∧ FnScope N ps (defScope st) ∧ P[i]? = some d ∧ d.np = ps.length ∧ d.nn = N.length ∧ cSs n ⟨N, defScope st, none, fns, cns, exs⟩ (defBody st) = some d.body
  mgx : mg x = some (.ref f)
  bnd : Binds K fd ps []
structure Tbl : Prop where
  fns : ∀ x i, fns.lookup x = some i → ∃ f fd ps, Dfok K mg P fns cns exs x i f fd ps
  cns : ∀ x d, cns.lookup x = some d → ∃ v u, mg x = some u ∧ RelV v u ∧ ∀ A0, Rep K A0 d v
  blt : ∀ x ∈ bltNs, mg x = none
  exs : ∀ x i, exs.lookup x = some i → ∃ C : Addr, ca i = .ref C ∧ mg x = some (.ref C) ∧ PySem.W.excIn K C [.type "ValueError", .type "Exception", .type "BaseException", .type "object"] "ValueError.__new__" = true ∧ PySem.W.keepIn K (.ref C) = true ∧ PySem.W.subIn K (.ref C) (.type "BaseException") = some true ∧ PySem.W.typeIn K (.ref C) = some (.type "type") ∧ PySem.W.exmOne K (.ref C) (.ref C) = some true
end
section
variable {Pr : Program} {w : World} {K : PySem.W.Frag} {mg : Str → Option Value} {base : Heap} {P : List Df} {fns : List (Str × Nat)} {cns : List (Str × D)} {ca : Nat → Value}
theorem kp_of {x qual : Str} {st : Stmt} {f : Addr} {fd : FuncData} (F : Fun K x qual st f fd) : PySem.W.keepIn K (.ref f) = true := F.kp
theorem start_R {A0 F H : Hp} {sl : List Slot} {vs : List V} {N : List Str} {n : Nat} (r : R K A0 F ⟨sl⟩ (vs.map some) H) (hn : n = N.length) (hl : sl.length ≤ n) : R K A0 F (Z.start n sl) (L2.start N vs) H := by
  subst hn
  have hv : sl.length = vs.length := by have := r.len; rw [List.length_map] at this; exact this
  have ge : ∀ (i : Nat) (x : Slot), (Z.start N.length sl).e[i]? = some x → (i < sl.length ∧ sl[i]? = some x) ∨ (sl.length ≤ i ∧ i < N.length ∧ x = .no) := fun i x e => by
    have e : (sl ++ List.replicate (N.length - sl.length) Slot.no)[i]? = some x := e
    by_cases hi : i < sl.length
    · rw [List.getElem?_append_left hi] at e; exact .inl ⟨hi, e⟩
    · rw [List.getElem?_append_right (by omega)] at e
      obtain ⟨h1, h2⟩ := List.getElem?_eq_some_iff.mp e
      rw [List.length_replicate] at h1
      rw [List.getElem_replicate] at h2
      exact .inr ⟨by omega, by omega, h2.symm⟩
  have gs : ∀ i, i < sl.length → (L2.start N vs)[i]? = (vs.map some)[i]? := fun i hi => by
    show (vs.map some ++ List.replicate (N.length - vs.length) none)[i]? = _
    rw [List.getElem?_append_left (by rw [List.length_map]; omega)]
  have ow : ∀ i a, Own (Z.start N.length sl) (L2.start N vs) i a → Own ⟨sl⟩ (vs.map some) i a := fun i a ⟨x, h1, h2, h3⟩ => by
    rcases ge i x h1 with ⟨hi, h4⟩ | ⟨_, _, rfl⟩
    · exact ⟨x, h4, h2, by rw [← gs i hi]; exact h3⟩
    · cases h2
  refine ⟨r.zh, r.fh, ?_, fun i x e => ?_, fun i j a h1 h2 => r.sep i j a (ow i a h1) (ow j a h2), fun i a h1 => r.out i a (ow i a h1)⟩
  · show (sl ++ List.replicate (N.length - sl.length) Slot.no).length = (vs.map some ++ List.replicate (N.length - vs.length) none).length
    simp [hv]
  · rcases ge i x e with ⟨hi, h4⟩ | ⟨h1, h2, rfl⟩
    · obtain ⟨o, q1, q2⟩ := r.sl i x h4
      exact ⟨o, by rw [gs i hi]; exact q1, q2⟩
    · have : i < (L2.start N vs).length := by
        show i < (vs.map some ++ List.replicate (N.length - vs.length) none).length
        simp; omega
      exact ⟨_, List.getElem?_eq_getElem this, .no _⟩
theorem end_R {A1 F H' : Hp} {sl : List Slot} {vs : List V} {N : List Str} {s' : S} {σ' : L2.St} {np n : Nat} (hv : sl.length = vs.length) (hn : n = N.length) (hl : sl.length = np) (hle : np ≤ n) (hs : s'.e.length = n)
    (k : Keep (Z.start n sl) (L2.start N vs) s' σ') (r : R K A1 F s' σ' H') :
    Keep ⟨sl⟩ (vs.map some) ⟨pins sl (s'.e.take np)⟩ (vs.map some) ∧ R K A1 F ⟨pins sl (s'.e.take np)⟩ (vs.map some) H' ∧ ∀ v rv, (∀ i, rv ≠ .b i) → RV K A1 F s' σ' H' v rv → RV K A1 F ⟨pins sl (s'.e.take np)⟩ (vs.map some) H' v rv := by
  subst hn hl
  have st : ∀ (i : Nat) (x : Slot), sl[i]? = some x → (Z.start N.length sl).e[i]? = some x ∧ (L2.start N vs)[i]? = (vs.map some)[i]? := fun i x h => by
    have hi := set_at h
    constructor
    · show (sl ++ List.replicate (N.length - sl.length) Slot.no)[i]? = some x
      rw [List.getElem?_append_left hi]; exact h
    · show (vs.map some ++ List.replicate (N.length - vs.length) none)[i]? = _
      rw [List.getElem?_append_left (by rw [List.length_map]; omega)]
  have at_ : ∀ (i : Nat) (y : Slot), (pins sl (s'.e.take sl.length))[i]? = some y → y = .no ∨ (s'.e[i]? = some y ∧ (vs.map some)[i]? = σ'[i]?) := fun i y h => by
    obtain ⟨x, c, h1, h2, h3⟩ := pins_get h
    by_cases p : isPin x = true
    · rw [if_pos p] at h3
      subst h3
      rw [List.getElem?_take] at h2
      split at h2
      · obtain ⟨q1, q2⟩ := st i x h1
        exact .inr ⟨h2, by rw [(k i x q1 p).1, q2]⟩
      · cases h2
    · rw [if_neg p] at h3; exact .inl h3
  have len : (pins sl (s'.e.take sl.length)).length = (vs.map some).length := by
    simp [pins]
    omega
  refine ⟨fun i x hx px => ?_, r.forget len at_, fun v rv nb h => ?_⟩
  · obtain ⟨q1, q2⟩ := st i x hx
    obtain ⟨h1, y, h2, h3⟩ := k i x q1 px
    refine ⟨rfl, y, ?_, h3⟩
    show (pins sl (s'.e.take sl.length))[i]? = some y
    unfold pins
    rw [List.getElem?_zipWith, show sl[i]? = some x from hx, List.getElem?_take, if_pos (set_at hx), h2]
    simp [px]
  · cases rv with
    | v d => exact h
    | b i => exact absurd rfl (nb i)
    | o ds =>
      obtain ⟨a, ws, rfl, h1, h2, h3, h4, h5⟩ := h
      refine ⟨a, ws, rfl, h1, h2, h3, h4, fun i ⟨y, q1, q2, q3⟩ => ?_⟩
      rcases at_ i y q1 with rfl | ⟨q4, q5⟩
      · cases q2
      · exact h5 i ⟨y, q4, q2, q5 ▸ q3⟩
/-- every def of the table keeps its promise, at every level -/
theorem all_ok {exs : List (Str × Nat)} (T : Tbl K mg P fns cns exs ca) : ∀ (n : Nat) {x : Str} {i : Nat} {f : Addr} {fd : FuncData} {ps : List Str}, Dfok K mg P fns cns exs x i f fd ps → FnOk Pr w K mg base (L2.CX Pr w) n f fd ps (spF K ca (call P n) i)
  | 0, x, i, f, fd, ps, h => ⟨fun vs H Q E ⟨A0, F, sl, r, q⟩ => q.elim, fun A outer s H args us vs Q E _ _ _ _ ⟨A0, F, sl, r, q⟩ => q.elim⟩
  | n + 1, x, i, f, fd, ps, h => by
    obtain ⟨qual, st, N, d, m, Fu, Sc, hd, hnp, hnn, hc⟩ := h.ex
    have hcall : ∀ sl, call P (n + 1) i sl = runDf d (call P n) sl := fun sl => by
      show (match P[i]? with | some d => runDf d (call P n) sl | none => .bad) = _
      rw [hd]
    have hlen : ∀ {vs H Q E}, spF K ca (call P (n + 1)) i vs H Q E → vs.length = ps.length := by
      rintro vs H Q E ⟨A0, F, sl, r, q⟩
      rw [hcall] at q
      unfold runDf at q
      by_cases hl : sl.length = d.np ∧ d.np ≤ d.nn
      · have := r.len
        rw [List.length_map] at this
        have h2 : sl.length = vs.length := this
        rw [← h2, hl.1, hnp]
      · rw [if_neg hl] at q; exact q.elim
    refine Fu.okX Sc (fun vs H Q E h => hlen h) fun cdv A outer s H vs Q E hr hsp => ?_
    have hr' : Room n (L2.cxOf (L2.CX Pr w) Pr w K mg base N qual (defScope st) f cdv A outer s H E).A := hr
    have ck : CK (L2.cxOf (L2.CX Pr w) Pr w K mg base N qual (defScope st) f cdv A outer s H E) (fun cls d _ H => E cls d H) ca ⟨N, defScope st, none, fns, cns, exs⟩ (call P n) :=
      ⟨rfl, Sc.nd, rfl, fun _ _ => rfl, rfl, Room.units hr', takes_of rfl rfl rfl rfl, T.cns, fun y j hy => by
        obtain ⟨f', fd', ps', h'⟩ := T.fns y j hy
        obtain ⟨qual', st', N', d', m', Fu', _⟩ := h'.ex
        exact ⟨n, f', fd', ps', all_ok T n h', hr', h'.mgx, Fu'.kp, h'.bnd⟩, T.blt, fun y j hy => by
        obtain ⟨C, t1, t2, t3, t4, t5, t6, t7⟩ := T.exs y j hy
        exact ⟨C, t1, t2, t3, t4, raises_own t5 t6, t7⟩⟩
    refine ⟨_, cSs_ok ck (passes_of rfl) ⟨rfl, rfl⟩ hc, ?_⟩
    obtain ⟨A0, F, sl, r, q⟩ := hsp
    rw [hcall] at q
    unfold runDf at q
    have hsl : sl.length = vs.length := by have := r.len; rw [List.length_map] at this; exact this
    by_cases hl : sl.length = d.np ∧ d.np ≤ d.nn
    · rw [if_pos hl] at q
      refine ⟨A0, F, Z.start d.nn sl, start_R r hnn (by omega), ?_⟩
      have fin : ∀ {A1 H' σ' s'}, s'.e.length = d.nn → Keep (Z.start d.nn sl) (L2.start N vs) s' σ' → R K A1 F s' σ' H' → _ := fun {A1 H' σ' s'} hs k r' => end_R (N := N) hsl hnn hl.1 hl.2 hs k r'
      cases hx : xss (call P n) d.body (Z.start d.nn sl) with
      | bad => rw [hx] at q; exact q.elim
      | bk s' => rw [hx] at q; exact q.elim
      | ct s' => rw [hx] at q; exact q.elim
      | nx s' =>
        rw [hx] at q
        dsimp only [endR] at q
        by_cases hs : s'.e.length = d.nn
        · rw [if_pos hs] at q
          intro A1 H' σ' e k r'
          obtain ⟨q1, q2, q3⟩ := fin hs k r'
          exact q _ A1 H' e q1 q2 .non
        · rw [if_neg hs] at q; exact q.elim
      | rt rv s' =>
        rw [hx] at q
        dsimp only [endR] at q
        by_cases hs : s'.e.length = d.nn
        · rw [if_pos hs] at q
          intro A1 H' σ' v e k r' hrv
          obtain ⟨q1, q2, q3⟩ := fin hs k r'
          cases rv with
          | b i => exact q.elim
          | v d => exact q v A1 H' e q1 q2 (q3 v _ (fun i h => by cases h) hrv)
          | o d => exact q v A1 H' e q1 q2 (q3 v _ (fun i h => by cases h) hrv)
        · rw [if_neg hs] at q; exact q.elim
      | ex c s' =>
        rw [hx] at q
        dsimp only at q
        by_cases hs : s'.e.length = d.nn
        · rw [if_pos hs] at q
          intro A1 H' σ' e k r'
          obtain ⟨q1, q2, q3⟩ := fin hs k r'
          exact q A1 H' e q1 q2
        · rw [if_neg hs] at q; exact q.elim
    · rw [if_neg hl] at q; exact q.elim
/-- the law's own promise: on every script it gives True -/
theorem law_sp {i n : Nat} {K : PySem.W.Frag} {H : Hp} {a : Addr} {ns : List Int} (h : ∃ es, call P n i [.sh (.scr ns)] = .ok (.v (.bl true)) es) (hS : SqL K H a (ns.map V.int)) :
    spF K ca (call P n) i [.ref a] H (fun v _ => v = .bl true) fun _ _ _ => False := by
  obtain ⟨es, h⟩ := h
  refine ⟨H, fun _ => none, [.sh (.scr ns)], ⟨Same.refl _, fun b o e => (by cases e), rfl, fun i x e => ?_, fun i j a h1 h2 => ?_, fun i a h1 => ?_⟩, ?_⟩
  · cases i with
    | zero => cases e; exact ⟨_, rfl, .sh (.scr hS)⟩
    | succ i => cases e
  · obtain ⟨x, e, p, _⟩ := h1
    cases i with
    | zero => cases e; cases p
    | succ i => cases e
  · obtain ⟨x, e, p, _⟩ := h1
    cases i with
    | zero => cases e; cases p
    | succ i => cases e
  · rw [h]
    intro v A1 H' _ _ _ rv
    cases rv
    rfl
end
end Z

/-! Z: small helps for the joining. -/
namespace Z
open PySem PySem.Spec PyProof.Rows L2
theorem look_cons {β : Type} {x y : Str} {b d : β} {r : List (Str × β)} (h : List.lookup x ((y, b) :: r) = some d) : (x = y ∧ d = b) ∨ r.lookup x = some d := by
  rw [List.lookup_cons] at h
  cases e : x == y with
  | true => rw [e] at h; exact .inl ⟨eq_of_beq e, (Option.some.inj h).symm⟩
  | false => rw [e] at h; exact .inr h
theorem cx_no {P : Program} {w : World} {H : Hp} {s s' : Shared} {e : Value} (h : L2.CX P w [] H s (fun _ _ _ => False) e s') : False := by
  obtain ⟨_, _, _, _, _, _, _, _, _, _, _, _, z⟩ := h
  exact z
def spA (K : PySem.W.Frag) (cf : Nat → List Slot → Co) (i : Nat) : Sp := fun vs H Q E => ∀ ca, spF K ca cf i vs H Q E
theorem fn_all {Pr : Program} {w : World} {K : PySem.W.Frag} {mg : Str → Option Value} {base : Heap} {CX : CXT} {n : Nat} {f : Addr} {fd : FuncData} {ps : List Str} {ca : Nat → Value} {cf : Nat → List Slot → Co} {i : Nat} (F : FnOk Pr w K mg base CX n f fd ps (spF K ca cf i)) : FnOk Pr w K mg base CX n f fd ps (spA K cf i) := by
  obtain ⟨F1, F2⟩ := F
  exact ⟨fun vs H Q E h => F1 vs H Q E (h ca), fun A outer s H args us vs Q E a b c d h => F2 A outer s H args us vs Q E a b c d (h ca)⟩
theorem exm_self {K : PySem.W.Frag} {S : Addr} (h1 : PySem.W.subIn K (.ref S) (.type "BaseException") = some true) (h2 : PySem.W.isClsIn K S = true) (h3 : PySem.W.typeIn K (.ref S) = some (.type "type")) (h4 : PySem.W.subIn K (.ref S) (.ref S) = some true) :
    PySem.W.exmOne K (.ref S) (.ref S) = some true := by
  have e1 : (PySem.W.subIn K (.ref S) (.type "BaseException") == some true) = true := by rw [h1] <;> rfl
  have e2 : ((PySem.W.clsIn K S).isSome && PySem.W.typeIn K (.ref S) == some (.type "type")) = true := by
    have h2' : (PySem.W.clsIn K S).isSome = true := h2
    rw [h2', h3] <;> rfl
  show (if (PySem.W.subIn K (.ref S) (.type "BaseException") == some true) = true then (if ((PySem.W.clsIn K S).isSome && PySem.W.typeIn K (.ref S) == some (.type "type")) = true then PySem.W.subIn K (.ref S) (.ref S) else none) else none) = some true
  rw [if_pos e1, if_pos e2]
  exact h4
end Z

/-! Z: the laws' bag and its draws. -/
namespace Z
def bagBody : Ss :=
  (.cons (.asg (.var 2) (.cst (.int 0)))
  (.cons (.iff (.cmp .lt (.var 1) (.blt .len (.cons (.var 0) .nil))) (.cons (.asg (.var 2) (.idx (.var 0) (.var 1)))
  .nil) .nil)
  (.cons (.asg (.var 3) (.cst (.int 0)))
  (.cons (.iff (.cmp .ge (.blt .abs (.cons (.var 2) .nil)) (.bin .pow (.cst (.int 10)) (.cst (.int 18)))) (.cons (.asg (.var 3) (.blt .abs (.cons (.var 2) .nil)))
  .nil) .nil)
  (.cons (.ret (.lst (.cons (.var 3) (.cons (.bin .add (.bin .add (.bin .mul (.bin .mod (.var 2) (.cst (.int 1000000007))) (.cst (.int 7))) (.bin .mul (.cst (.int 1013)) (.var 1))) (.cst (.int 5))) .nil))))
  .nil)))))
def drawBody : Ss :=
  (.cons (.iff (.cmp .gt (.idx (.var 0) (.cst (.int 0))) (.cst (.int 0))) (.cons (.asg (.var 2) (.bin .mod (.idx (.var 0) (.cst (.int 0))) (.var 1)))
  (.cons (.sub 0 (.cst (.int 0)) (.bin .fdiv (.idx (.var 0) (.cst (.int 0))) (.var 1)))
  (.cons (.ret (.var 2))
  .nil))) .nil)
  (.cons (.sub 0 (.cst (.int 1)) (.bin .mod (.bin .add (.bin .mul (.idx (.var 0) (.cst (.int 1))) (.cst (.int 69621))) (.cst (.int 1234567))) (.cst (.int 2147483647))))
  (.cons (.ret (.bin .mod (.bin .mod (.bin .pow (.bin .fdiv (.idx (.var 0) (.cst (.int 1))) (.cst (.int 16))) (.cst (.int 3))) (.cst (.int 998244353))) (.var 1)))
  .nil)))
/-- a step of the second number -/
def turnB (b : Int) : Int := (b * 69621 + 1234567) % 2147483647
def drawV (g : Int × Int) (m : Int) : Int := if 0 < g.1 then g.1 % m else (turnB g.2 / 16) ^ 3 % 998244353 % m
def drawS (g : Int × Int) (m : Int) : Int × Int := if 0 < g.1 then (g.1 / m, g.2) else (g.1, turnB g.2)
theorem turnB_lt (b : Int) : 0 ≤ turnB b ∧ turnB b < 2147483647 := by unfold turnB; omega
theorem drawV_lt (g : Int × Int) {m : Int} (h : 0 < m) : 0 ≤ drawV g m ∧ drawV g m < m := by
  unfold drawV
  split <;> exact ⟨Int.emod_nonneg _ (by omega), Int.emod_lt_of_pos _ h⟩
theorem draw_run (cf : Nat → List Slot → Co) (g : Int × Int) (m : Int) (h : 0 < m) (h2 : m < 1073741824) : runDf ⟨2, 3, drawBody⟩ cf [.le [.int g.1, .int g.2], .sh (.int m)] = .ok (.v (.int (drawV g m))) [.le [.int (drawS g m).1, .int (drawS g m).2], .sh (.int m)] := by
  obtain ⟨a, b⟩ := g
  have m0 : ¬ m = 0 := by omega
  have m1 : m.natAbs < 1073741824 := by omega
  have m2 : (0 : Int) ≤ m := by omega
  have fm : ∀ x : Int, x.fmod m = x % m := fun x => Int.fmod_eq_emod_of_nonneg x m2
  have fd : ∀ x : Int, x.fdiv m = x / m := fun x => Int.fdiv_eq_ediv_of_nonneg x m2
  have f1 : ∀ x : Int, x.fmod 2147483647 = x % 2147483647 := fun x => Int.fmod_eq_emod_of_nonneg x (by decide)
  have f2 : ∀ x : Int, x.fmod 998244353 = x % 998244353 := fun x => Int.fmod_eq_emod_of_nonneg x (by decide)
  have f3 : ∀ x : Int, x.fdiv 16 = x / 16 := fun x => Int.fdiv_eq_ediv_of_nonneg x (by decide)
  have t := turnB_lt b
  have tb : (b * 69621 + 1234567) % 2147483647 = turnB b := rfl
  have t3 : (turnB b / 16).natAbs < 18446744073709551616 := by omega
  by_cases ha : 0 < a
  · simp [runDf, start, endR, drawBody, op2_some, ev_cst, ev_var, ev_bin, ev_neg, ev_not, ev_and, ev_or, ev_cmp, ev_chn, ev_isN, ev_notN, ev_ife, ev_tup, ev_lst, ev_idx, ev_slc, ev_call, ev_blt, ev_met, ev_joi, ev_lc, ev_isi, tst_eq, evI_eq, evs_nil, evs_cons, evF_nil, evF_cons, evo_no, evo_so, xs_asg, xs_asgT, xs_par, xs_sub, xs_exp, xs_ret, xs_retN, xs_if, xs_for, xs_whl, xs_brk, xs_rse, xs_cnt, xs_pas, xss_nil, xss_cons, itK_seq, itK_rng1, itK_rng2, itK_rng3, itK_enm, itK_zip, bind_ok, bind_bad, of_ok, fbind_nx, fbind_rt, fbind_bk, fbind_ct, ofO_some, ofS_some, cnt_v, cnt_o, cnt_b, cntS_eq, frz_v, frz_o, frz_b, fr_no, fr_sh, fr_ow, fr_le, fr_lf, fr_lk, putS_fr, mutS_eq, SZ, idxV, slcV, metV, mokV, isiV, joiV, idxR, ixN, binR, addR, mulR, intR, cmpR, D.tr, CM, opd, slcR, bltR, metR, hand, lent, dist, back, cnts, asgT, asgTs, D.eqv, eqvL, D.pl, plL, D.dep, depL, lockO, itemsOf, unlock, freeS, wipeS, restS, D.flat, subE, ha, m0, m1, fm, fd, drawV, drawS]
  · simp [runDf, start, endR, drawBody, op2_some, ev_cst, ev_var, ev_bin, ev_neg, ev_not, ev_and, ev_or, ev_cmp, ev_chn, ev_isN, ev_notN, ev_ife, ev_tup, ev_lst, ev_idx, ev_slc, ev_call, ev_blt, ev_met, ev_joi, ev_lc, ev_isi, tst_eq, evI_eq, evs_nil, evs_cons, evF_nil, evF_cons, evo_no, evo_so, xs_asg, xs_asgT, xs_par, xs_sub, xs_exp, xs_ret, xs_retN, xs_if, xs_for, xs_whl, xs_brk, xs_rse, xs_cnt, xs_pas, xss_nil, xss_cons, itK_seq, itK_rng1, itK_rng2, itK_rng3, itK_enm, itK_zip, bind_ok, bind_bad, of_ok, fbind_nx, fbind_rt, fbind_bk, fbind_ct, ofO_some, ofS_some, cnt_v, cnt_o, cnt_b, cntS_eq, frz_v, frz_o, frz_b, fr_no, fr_sh, fr_ow, fr_le, fr_lf, fr_lk, putS_fr, mutS_eq, SZ, idxV, slcV, metV, mokV, isiV, joiV, idxR, ixN, binR, addR, mulR, intR, cmpR, D.tr, CM, opd, slcR, bltR, metR, hand, lent, dist, back, cnts, asgT, asgTs, D.eqv, eqvL, D.pl, plL, D.dep, depL, lockO, itemsOf, unlock, freeS, wipeS, restS, D.flat, subE, ha, m0, m1, fm, fd, f1, f2, f3, tb, t3, drawV, drawS]
theorem ixN_nat (n k : Nat) : ixN n (k : Int) = if k < n then some k else none := by
  unfold ixN
  rw [if_pos (Int.natCast_nonneg k)]
  by_cases h : k < n
  · rw [if_pos (by omega), if_pos h]; rfl
  · rw [if_neg (by omega), if_neg h]
def bagOf (ns : List Int) (k : Nat) : Int × Int := (if 1000000000000000000 ≤ (if ns.getD k 0 < 0 then -ns.getD k 0 else ns.getD k 0) then (if ns.getD k 0 < 0 then -ns.getD k 0 else ns.getD k 0) else 0, ns.getD k 0 % 1000000007 * 7 + 1013 * (k : Int) + 5)
theorem bag_run (cf : Nat → List Slot → Co) (ns : List Int) (k : Nat) : runDf ⟨2, 4, bagBody⟩ cf [.sh (.scr ns), .sh (.int (k : Int))] = .ok (.o [.int (bagOf ns k).1, .int (bagOf ns k).2]) [.sh (.scr ns), .sh (.int (k : Int))] := by
  have f1 : ∀ x : Int, x.fmod 1000000007 = x % 1000000007 := fun x => Int.fmod_eq_emod_of_nonneg x (by decide)
  have c1 : ∀ x : Int, -18446744073709551616 < x % 1000000007 ∧ x % 1000000007 < 18446744073709551616 := fun x => by omega
  by_cases hk : k < ns.length
  · have e : ns[k]? = some (ns.getD k 0) := by rw [List.getD_eq_getElem?_getD, List.getElem?_eq_getElem hk]; rfl
    have e2 : ns[k] = ns.getD k 0 := by rw [List.getD_eq_getElem?_getD, List.getElem?_eq_getElem hk]; rfl
    unfold bagOf
    generalize hc : ns.getD k 0 = c at e e2
    by_cases h1 : c < 0
    · by_cases h2 : 1000000000000000000 ≤ -c
      · simp [runDf, start, endR, bagBody, op2_some, ev_cst, ev_var, ev_bin, ev_neg, ev_not, ev_and, ev_or, ev_cmp, ev_chn, ev_isN, ev_notN, ev_ife, ev_tup, ev_lst, ev_idx, ev_slc, ev_call, ev_blt, ev_met, ev_joi, ev_lc, ev_isi, tst_eq, evI_eq, evs_nil, evs_cons, evF_nil, evF_cons, evo_no, evo_so, xs_asg, xs_asgT, xs_par, xs_sub, xs_exp, xs_ret, xs_retN, xs_if, xs_for, xs_whl, xs_brk, xs_rse, xs_cnt, xs_pas, xss_nil, xss_cons, itK_seq, itK_rng1, itK_rng2, itK_rng3, itK_enm, itK_zip, bind_ok, bind_bad, of_ok, fbind_nx, fbind_rt, fbind_bk, fbind_ct, ofO_some, ofS_some, cnt_v, cnt_o, cnt_b, cntS_eq, frz_v, frz_o, frz_b, fr_no, fr_sh, fr_ow, fr_le, fr_lf, fr_lk, putS_fr, mutS_eq, SZ, idxV, slcV, metV, mokV, isiV, joiV, idxR, ixN_nat, binR, addR, mulR, intR, cmpR, D.tr, CM, opd, slcR, bltR, metR, hand, lent, dist, back, cnts, asgT, asgTs, D.eqv, eqvL, D.pl, plL, D.dep, depL, lockO, itemsOf, unlock, freeS, wipeS, restS, D.flat, ixN_nat, hk, e, e2, h1, h2, f1]
      · simp [runDf, start, endR, bagBody, op2_some, ev_cst, ev_var, ev_bin, ev_neg, ev_not, ev_and, ev_or, ev_cmp, ev_chn, ev_isN, ev_notN, ev_ife, ev_tup, ev_lst, ev_idx, ev_slc, ev_call, ev_blt, ev_met, ev_joi, ev_lc, ev_isi, tst_eq, evI_eq, evs_nil, evs_cons, evF_nil, evF_cons, evo_no, evo_so, xs_asg, xs_asgT, xs_par, xs_sub, xs_exp, xs_ret, xs_retN, xs_if, xs_for, xs_whl, xs_brk, xs_rse, xs_cnt, xs_pas, xss_nil, xss_cons, itK_seq, itK_rng1, itK_rng2, itK_rng3, itK_enm, itK_zip, bind_ok, bind_bad, of_ok, fbind_nx, fbind_rt, fbind_bk, fbind_ct, ofO_some, ofS_some, cnt_v, cnt_o, cnt_b, cntS_eq, frz_v, frz_o, frz_b, fr_no, fr_sh, fr_ow, fr_le, fr_lf, fr_lk, putS_fr, mutS_eq, SZ, idxV, slcV, metV, mokV, isiV, joiV, idxR, ixN_nat, binR, addR, mulR, intR, cmpR, D.tr, CM, opd, slcR, bltR, metR, hand, lent, dist, back, cnts, asgT, asgTs, D.eqv, eqvL, D.pl, plL, D.dep, depL, lockO, itemsOf, unlock, freeS, wipeS, restS, D.flat, ixN_nat, hk, e, e2, h1, h2, f1]
    · by_cases h2 : 1000000000000000000 ≤ c
      · simp [runDf, start, endR, bagBody, op2_some, ev_cst, ev_var, ev_bin, ev_neg, ev_not, ev_and, ev_or, ev_cmp, ev_chn, ev_isN, ev_notN, ev_ife, ev_tup, ev_lst, ev_idx, ev_slc, ev_call, ev_blt, ev_met, ev_joi, ev_lc, ev_isi, tst_eq, evI_eq, evs_nil, evs_cons, evF_nil, evF_cons, evo_no, evo_so, xs_asg, xs_asgT, xs_par, xs_sub, xs_exp, xs_ret, xs_retN, xs_if, xs_for, xs_whl, xs_brk, xs_rse, xs_cnt, xs_pas, xss_nil, xss_cons, itK_seq, itK_rng1, itK_rng2, itK_rng3, itK_enm, itK_zip, bind_ok, bind_bad, of_ok, fbind_nx, fbind_rt, fbind_bk, fbind_ct, ofO_some, ofS_some, cnt_v, cnt_o, cnt_b, cntS_eq, frz_v, frz_o, frz_b, fr_no, fr_sh, fr_ow, fr_le, fr_lf, fr_lk, putS_fr, mutS_eq, SZ, idxV, slcV, metV, mokV, isiV, joiV, idxR, ixN_nat, binR, addR, mulR, intR, cmpR, D.tr, CM, opd, slcR, bltR, metR, hand, lent, dist, back, cnts, asgT, asgTs, D.eqv, eqvL, D.pl, plL, D.dep, depL, lockO, itemsOf, unlock, freeS, wipeS, restS, D.flat, ixN_nat, hk, e, e2, h1, h2, f1]
      · simp [runDf, start, endR, bagBody, op2_some, ev_cst, ev_var, ev_bin, ev_neg, ev_not, ev_and, ev_or, ev_cmp, ev_chn, ev_isN, ev_notN, ev_ife, ev_tup, ev_lst, ev_idx, ev_slc, ev_call, ev_blt, ev_met, ev_joi, ev_lc, ev_isi, tst_eq, evI_eq, evs_nil, evs_cons, evF_nil, evF_cons, evo_no, evo_so, xs_asg, xs_asgT, xs_par, xs_sub, xs_exp, xs_ret, xs_retN, xs_if, xs_for, xs_whl, xs_brk, xs_rse, xs_cnt, xs_pas, xss_nil, xss_cons, itK_seq, itK_rng1, itK_rng2, itK_rng3, itK_enm, itK_zip, bind_ok, bind_bad, of_ok, fbind_nx, fbind_rt, fbind_bk, fbind_ct, ofO_some, ofS_some, cnt_v, cnt_o, cnt_b, cntS_eq, frz_v, frz_o, frz_b, fr_no, fr_sh, fr_ow, fr_le, fr_lf, fr_lk, putS_fr, mutS_eq, SZ, idxV, slcV, metV, mokV, isiV, joiV, idxR, ixN_nat, binR, addR, mulR, intR, cmpR, D.tr, CM, opd, slcR, bltR, metR, hand, lent, dist, back, cnts, asgT, asgTs, D.eqv, eqvL, D.pl, plL, D.dep, depL, lockO, itemsOf, unlock, freeS, wipeS, restS, D.flat, ixN_nat, hk, e, e2, h1, h2, f1]
  · have e : ns.getD k 0 = 0 := by rw [List.getD_eq_getElem?_getD, List.getElem?_eq_none (by omega)]; rfl
    simp [runDf, start, endR, bagBody, op2_some, ev_cst, ev_var, ev_bin, ev_neg, ev_not, ev_and, ev_or, ev_cmp, ev_chn, ev_isN, ev_notN, ev_ife, ev_tup, ev_lst, ev_idx, ev_slc, ev_call, ev_blt, ev_met, ev_joi, ev_lc, ev_isi, tst_eq, evI_eq, evs_nil, evs_cons, evF_nil, evF_cons, evo_no, evo_so, xs_asg, xs_asgT, xs_par, xs_sub, xs_exp, xs_ret, xs_retN, xs_if, xs_for, xs_whl, xs_brk, xs_rse, xs_cnt, xs_pas, xss_nil, xss_cons, itK_seq, itK_rng1, itK_rng2, itK_rng3, itK_enm, itK_zip, bind_ok, bind_bad, of_ok, fbind_nx, fbind_rt, fbind_bk, fbind_ct, ofO_some, ofS_some, cnt_v, cnt_o, cnt_b, cntS_eq, frz_v, frz_o, frz_b, fr_no, fr_sh, fr_ow, fr_le, fr_lf, fr_lk, putS_fr, mutS_eq, SZ, idxV, slcV, metV, mokV, isiV, joiV, idxR, ixN_nat, binR, addR, mulR, intR, cmpR, D.tr, CM, opd, slcR, bltR, metR, hand, lent, dist, back, cnts, asgT, asgTs, D.eqv, eqvL, D.pl, plL, D.dep, depL, lockO, itemsOf, unlock, freeS, wipeS, restS, D.flat, ixN_nat, hk, bagOf, e, f1]
end Z

/-! Z: plain helps. -/
namespace Z
theorem putS_at {i : Nat} {y x : Slot} {l : List Slot} (h : l[i]? = some x) (f : fr x = true) : putS i y ⟨l⟩ = some ⟨l.set i y⟩ := by
  rw [putS_fr, h]; simp [f]
/-- a loop by an invariant: k items are behind -/
theorem forL_inv {t : Tg} {lk : Lk} {fb : S → Fo} (items : List D) (I : Nat → S → Prop) : ∀ (k : Nat) (s : S), k ≤ items.length → I k s →
    (∀ k d s, items[k]? = some d → I k s → ∃ s1 s2, asgT t d s = some s1 ∧ (fb s1 = .nx s2 ∨ fb s1 = .ct s2) ∧ I (k + 1) s2) → ∃ s', I items.length s' ∧ forL t lk fb (items.drop k) s = .nx (unlock lk s') := by
  intro k s hk h0 step
  induction hn : items.length - k generalizing k s with
  | zero =>
    have e : k = items.length := by omega
    subst e
    exact ⟨s, h0, by rw [List.drop_length]; rfl⟩
  | succ n ih =>
    have hlt : k < items.length := by omega
    obtain ⟨s1, s2, h1, h2, h3⟩ := step k items[k] s (List.getElem?_eq_getElem hlt) h0
    obtain ⟨s', h4, h5⟩ := ih (k + 1) s2 hlt h3 (by omega)
    refine ⟨s', h4, ?_⟩
    rw [List.drop_eq_getElem_cons hlt]
    unfold forL
    rw [h1]
    dsimp only
    rcases h2 with h2 | h2 <;> rw [h2] <;> exact h5
theorem forL_all {t : Tg} {lk : Lk} {fb : S → Fo} {items : List D} {s : S} (I : Nat → S → Prop) (h0 : I 0 s)
    (step : ∀ k d s, items[k]? = some d → I k s → ∃ s1 s2, asgT t d s = some s1 ∧ (fb s1 = .nx s2 ∨ fb s1 = .ct s2) ∧ I (k + 1) s2) : ∃ s', I items.length s' ∧ forL t lk fb items s = .nx (unlock lk s') := by
  have := forL_inv (t := t) (lk := lk) (fb := fb) items I 0 s (Nat.zero_le _) h0 step
  rwa [List.drop_zero] at this
theorem forL_rng {t : Tg} {lk : Lk} {fb : S → Fo} {n : Nat} {s : S} (I : Nat → S → Prop) (h0 : I 0 s)
    (step : ∀ k s, k < n → I k s → ∃ s1 s2, asgT t (.int (k : Int)) s = some s1 ∧ (fb s1 = .nx s2 ∨ fb s1 = .ct s2) ∧ I (k + 1) s2) : ∃ s', I n s' ∧ forL t lk fb ((List.range n).map fun (k : Nat) => .int (k : Int)) s = .nx (unlock lk s') := by
  have := forL_all (t := t) (lk := lk) (fb := fb) (items := (List.range n).map fun (k : Nat) => D.int (k : Int)) I h0 (fun k d s hd hI => by
    rw [List.getElem?_map] at hd
    obtain ⟨j, h1, h2⟩ := Option.map_eq_some_iff.mp hd
    obtain ⟨h3, h4⟩ := List.getElem?_eq_some_iff.mp h1
    rw [List.getElem_range] at h4
    subst h4 h2
    exact step k s (by simpa using h3) hI)
  simpa using this
/-- a comprehension by an invariant -/
theorem lcL_rng {t : Tg} {vs : List Nat} {fc : S → Ro Bool} {fe : S → Ro Rv} {n : Nat} (hn : n ≤ SZ) (I : Nat → List D → S → Prop)
    (step : ∀ k acc s, k < n → I k acc s → ∃ s1 s2 s3 x, asgT t (.int (k : Int)) s = some s1 ∧ fc s1 = .ok true s2 ∧ (fe s2).bind frz = .ok x s3 ∧ I (k + 1) (acc ++ [x]) (wipeS s3 vs)) :
    ∀ (m k : Nat) (acc : List D) (s : S), k + m = n → acc.length = k → I k acc s → ∃ acc' s', acc'.length = n ∧ I n acc' s' ∧ lcL t vs fc fe ((List.range' k m).map fun (k : Nat) => .int (k : Int)) acc s = .ok acc' s' := by
  intro m
  induction m with
  | zero => intro k acc s hk hl h0; exact ⟨acc, s, by omega, by rw [← hk]; exact h0, rfl⟩
  | succ m ih =>
    intro k acc s hk hl h0
    obtain ⟨s1, s2, s3, x, h1, h2, h3, h4⟩ := step k acc s (by omega) h0
    obtain ⟨acc', s', h5, h6, h7⟩ := ih (k + 1) (acc ++ [x]) _ (by omega) (by simp [hl]) h4
    refine ⟨acc', s', h5, h6, ?_⟩
    rw [List.range'_succ, List.map_cons]
    unfold lcL
    rw [h1]
    dsimp only
    rw [h2]
    dsimp only
    rw [h3]
    dsimp only
    rw [if_pos (by omega)]
    exact h7
theorem lcL_rng0 {t : Tg} {vs : List Nat} {fc : S → Ro Bool} {fe : S → Ro Rv} {n : Nat} {s : S} (hn : n ≤ SZ) (I : Nat → List D → S → Prop) (h0 : I 0 [] s)
    (step : ∀ k acc s, k < n → I k acc s → ∃ s1 s2 s3 x, asgT t (.int (k : Int)) s = some s1 ∧ fc s1 = .ok true s2 ∧ (fe s2).bind frz = .ok x s3 ∧ I (k + 1) (acc ++ [x]) (wipeS s3 vs)) :
    ∃ acc' s', acc'.length = n ∧ I n acc' s' ∧ lcL t vs fc fe ((List.range n).map fun (k : Nat) => .int (k : Int)) [] s = .ok acc' s' := by
  have := lcL_rng (t := t) hn I step n 0 [] s (by omega) rfl h0
  rwa [← List.range_eq_range'] at this
/-! cuts, places -/
theorem ixN_num (n k : Nat) : ixN n (no_index (@OfNat.ofNat Int k instOfNat)) = if k < n then some k else none := ixN_nat n k
theorem ixN_neg (n k : Nat) : ixN n (-(k : Int)) = if 0 < k then (if k ≤ n then some (n - k) else none) else if 0 < n then some 0 else none := by
  unfold ixN
  by_cases h : 0 < k
  · rw [if_neg (by omega), if_pos h]
    by_cases h2 : k ≤ n
    · rw [if_pos (by omega), if_pos h2]; congr 1; omega
    · rw [if_neg (by omega), if_neg h2]
  · have : k = 0 := by omega
    subst this
    rw [if_pos (by omega), if_neg h]
    by_cases h2 : 0 < n
    · rw [if_pos (by omega), if_pos h2]; rfl
    · rw [if_neg (by omega), if_neg h2]
theorem sx_nat (n d p : Nat) : sx n d (some (p : Int)) = min p n := by
  show (if (p : Int) < 0 then ((p : Int) + (n : Int)).toNat else min (p : Int).toNat n) = min p n
  rw [if_neg (by omega), Int.toNat_natCast]
theorem cut_to {α : Type} (xs : List α) (p : Nat) : cut xs none (some (p : Int)) = xs.take p := by
  unfold cut
  rw [sx_nat]
  show (xs.drop 0).take (min p xs.length - 0) = _
  rw [List.drop_zero, Nat.sub_zero]
  rcases Nat.le_total p xs.length with h | h
  · rw [Nat.min_eq_left h]
  · rw [Nat.min_eq_right h, List.take_length, List.take_of_length_le h]
theorem cut_from {α : Type} (xs : List α) (p : Nat) : cut xs (some (p : Int)) none = xs.drop p := by
  unfold cut
  rw [sx_nat]
  show (xs.drop (min p xs.length)).take (xs.length - min p xs.length) = _
  rcases Nat.le_total p xs.length with h | h
  · rw [Nat.min_eq_left h, List.take_of_length_le (by simp)]
  · rw [Nat.min_eq_right h, List.drop_length, List.drop_of_length_le h]; simp
theorem cut_from1 {α : Type} (xs : List α) (p : Nat) : cut xs (some ((p : Int) + 1)) none = xs.drop (p + 1) := cut_from xs (p + 1)
theorem strsOf_chars (cs : List Nat) : strsOf (cs.map fun c => D.str [c]) = some (cs.map fun c => [c]) := by
  induction cs with
  | nil => rfl
  | cons c cs ih => simp [strsOf, ih]
theorem join_chars (cs : List Nat) : joinL [] (cs.map fun c => [c]) = cs := by
  induction cs with
  | nil => rfl
  | cons c cs ih =>
    cases cs with
    | nil => rfl
    | cons d cs => simpa [joinL] using ih
theorem sum_chars (cs : List Nat) : ((cs.map fun c => [c]).map List.length).sum = cs.length := by
  induction cs with
  | nil => rfl
  | cons c cs ih => simp at ih ⊢; omega
mutual
theorem eqv_refl : ∀ {d : D}, d.pl = true → d.eqv d = true
  | .non, _ => rfl
  | .bl b, _ => by simp [D.eqv]
  | .int i, _ => by simp [D.eqv]
  | .str s, _ => by simp [D.eqv]
  | .tup ds, h => eqvL_refl (ds := ds) h
  | .lst ds, h => eqvL_refl (ds := ds) h
  | .scr ns, h => by cases h
theorem eqvL_refl : ∀ {ds : List D}, plL ds = true → eqvL ds ds = true
  | [], _ => rfl
  | d :: ds, h => by
    have h : (d.pl && plL ds) = true := h
    rw [Bool.and_eq_true] at h
    show (d.eqv d && eqvL ds ds) = true
    rw [eqv_refl h.1, eqvL_refl h.2]; rfl
end
theorem plL_map {α : Type} {f : α → D} (h : ∀ a, (f a).pl = true) : ∀ l : List α, plL (l.map f) = true
  | [] => rfl
  | a :: l => by
    show ((f a).pl && plL (l.map f)) = true
    rw [h, plL_map h l]; rfl
theorem depL_map {α : Type} {f : α → D} {n : Nat} (h : ∀ a, (f a).dep ≤ n) : ∀ l : List α, depL (l.map f) ≤ n
  | [] => Nat.zero_le _
  | a :: l => by
    show max (f a).dep (depL (l.map f)) ≤ n
    exact Nat.max_le.mpr ⟨h a, depL_map h l⟩
theorem xss_go {cf : Nat → List Slot → Co} {st : Sx} {r : Ss} {s s1 : S} {f : Fo} (h1 : xs cf st s = .nx s1) (h2 : xss cf r s1 = f) : xss cf (.cons st r) s = f := by
  show (xs cf st s).bind (xss cf r) = f
  rw [h1]; exact h2
theorem call_df {P : List Df} {n i : Nat} {d : Df} (h : P[i]? = some d) (sl : List Slot) : call P (n + 1) i sl = runDf d (call P n) sl := by
  show (match P[i]? with | some d => runDf d (call P n) sl | none => .bad) = _
  rw [h]
theorem for_go {cf : Nat → List Slot → Co} {t : Tg} {k : IK} {es : Exs} {b : Ss} {s s1 : S} {p : List D × Lk} {f : Fo} (h1 : evI k (evs cf es) s = .ok p s1) (h2 : forL t p.2 (xss cf b) p.1 s1 = f) : xs cf (.fors t k es b) s = f := by
  show Fo.of (evI k (evs cf es) s) (fun p s1 => forL t p.2 (xss cf b) p.1 s1) = f
  rw [h1]; exact h2
theorem run_v {d : Df} {cf : Nat → List Slot → Co} {sl es : List Slot} {v : D} {s : S} (h0 : sl.length = d.np ∧ d.np ≤ d.nn) (h1 : xss cf d.body (start d.nn sl) = .rt (.v v) s) (h2 : s.e.length = d.nn) (h3 : s.e.take d.np = es) : runDf d cf sl = .ok (.v v) es := by
  unfold runDf endR
  rw [if_pos h0, h1]
  dsimp only
  rw [if_pos h2, h3]
theorem run_o {d : Df} {cf : Nat → List Slot → Co} {sl es : List Slot} {v : List D} {s : S} (h0 : sl.length = d.np ∧ d.np ≤ d.nn) (h1 : xss cf d.body (start d.nn sl) = .rt (.o v) s) (h2 : s.e.length = d.nn) (h3 : s.e.take d.np = es) : runDf d cf sl = .ok (.o v) es := by
  unfold runDf endR
  rw [if_pos h0, h1]
  dsimp only
  rw [if_pos h2, h3]
theorem inR_nat {n : Nat} (h : n ≤ 1000000) : inR (n : Int) = true := by
  unfold inR
  rw [decide_eq_true_eq]
  omega
theorem okI_nat {n : Nat} (h : n ≤ 1000000) : okI (n : Int) = true := by
  unfold okI
  rw [decide_eq_true_eq]
  omega
theorem rng_go {cf : Nat → List Slot → Co} {es : Exs} {s s1 : S} {n : Nat} (h1 : evs cf es s = .ok [.v (.int (n : Int))] s1) (h : n ≤ 1000000) : evI .rng1 (evs cf es) s = .ok ((List.range n).map fun (k : Nat) => .int (k : Int), []) s1 := by
  unfold evI
  rw [h1, bind_ok, itK_rng1, if_pos (inR_nat h), Int.toNat_natCast]
theorem lc_go {cf : Nat → List Slot → Co} {e c : Ex} {t : Tg} {k : IK} {es : Exs} {vs : List Nat} {s s1 s2 : S} {p : List D × Lk} {ds : List D} (h1 : evI k (evs cf es) s = .ok p s1) (h2 : freeS s1 vs = true)
    (h3 : lcL t vs (tst (ev cf c)) (ev cf e) p.1 [] (wipeS s1 vs) = .ok ds s2) : ev cf (.lc e t k es c vs) s = .ok (.o ds) (unlock p.2 (restS s1 s2 vs)) := by
  show (evI k (evs cf es) s).bind (fun p s1 => if freeS s1 vs = true then (lcL t vs (tst (ev cf c)) (ev cf e) p.1 [] (wipeS s1 vs)).bind fun ds s2 => Ro.ok (Rv.o ds) (unlock p.2 (restS s1 s2 vs)) else .bad) = _
  rw [h1, bind_ok, if_pos h2, h3, bind_ok]
theorem join_go {cf : Nat → List Slot → Co} {e : Ex} {s s2 : S} {cs : List Nat} (h1 : ev cf e s = .ok (.o (cs.map fun c => .str [c])) s2) (hl : cs.length ≤ 1000000) : ev cf (.met .join (.cst (.str [])) (.cons e .nil)) s = .ok (.v (.str cs)) s2 := by
  show eMet .join (ev cf (.cst (.str []))) (evF cf (.cons e .nil)) s = _
  have h2 : evF cf (.cons e .nil) s = .ok [.lst (cs.map fun c => .str [c])] s2 := by
    show (((ev cf e s).bind frz).bind fun x s1 => (Ro.ok [] s1).bind fun xs s2 => .ok (x :: xs) s2) = _
    rw [h1]; rfl
  have h0 : ev cf (.cst (.str [])) s = .ok (.v (.str [])) s := rfl
  unfold eMet
  rw [h0, bind_ok]
  show (evF cf (.cons e .nil) s).bind _ = _
  rw [h2, bind_ok]
  have h3 : metR .join (.str []) [.lst (cs.map fun c => .str [c])] = some (.v (.str cs), none) := by
    show ((strsOf (cs.map fun c => D.str [c])).bind fun ss => if (ss.map List.length).sum + ss.length * ([] : List Nat).length ≤ SZ then some (Rv.v (.str (joinL [] ss)), (none : Option (List D))) else none) = _
    rw [strsOf_chars]
    show (if ((cs.map fun c => [c]).map List.length).sum + (cs.map fun c => [c]).length * 0 ≤ SZ then _ else _) = _
    rw [if_pos (by rw [sum_chars]; show cs.length + _ * 0 ≤ 16777216; omega), join_chars]
  show (match metR .join (.str []) [.lst (cs.map fun c => .str [c])] with
  | none => Ro.bad
  | some (r, none) => .ok r s2
  | some (r, some xs) => .bad) = _
  rw [h3]
theorem joi_go {cf : Nat → List Slot → Co} {es : Exs} {s s2 : S} {rs : List Rv} {cs : List Nat} (h2 : evs cf es s = .ok rs s2) (h4 : cnts s2 rs = some [.lst (cs.map fun c => .str [c])]) (hl : cs.length ≤ 1000000) : ev cf (.joi (.cst (.str [])) es) s = .ok (.v (.str cs)) s2 := by
  show eJoi (ev cf (.cst (.str []))) (evs cf es) s = _
  have h0 : ev cf (.cst (.str [])) s = .ok (.v (.str [])) s := rfl
  unfold eJoi
  rw [h0, bind_ok]
  show (evs cf es s).bind _ = _
  rw [h2, bind_ok]
  show ofO ((cnts s2 rs).bind fun ds => (metR .join (.str []) ds).map (·.1)) s2 = _
  rw [h4]
  show ofO ((metR .join (.str []) [.lst (cs.map fun c => .str [c])]).map (·.1)) s2 = _
  have h3 : metR .join (.str []) [.lst (cs.map fun c => .str [c])] = some (.v (.str cs), none) := by
    show ((strsOf (cs.map fun c => D.str [c])).bind fun ss => if (ss.map List.length).sum + ss.length * ([] : List Nat).length ≤ SZ then some (Rv.v (.str (joinL [] ss)), (none : Option (List D))) else none) = _
    rw [strsOf_chars]
    show (if ((cs.map fun c => [c]).map List.length).sum + (cs.map fun c => [c]).length * 0 ≤ SZ then _ else _) = _
    rw [if_pos (by rw [sum_chars]; show cs.length + _ * 0 ≤ 16777216; omega), join_chars]
  rw [h3]; rfl
theorem asg_v {cf : Nat → List Slot → Co} {i : Nat} {e : Ex} {s : S} {l : List Slot} {d : D} {x : Slot} (h1 : ev cf e s = .ok (.v d) ⟨l⟩) (h2 : l[i]? = some x) (h3 : fr x = true) : xs cf (.asg (.var i) e) s = .nx ⟨l.set i (.sh d)⟩ := by
  show Fo.of (ev cf e s) (fun r s1 => match r with
    | .v d => ofS (putS i (.sh d) s1)
    | .o ds => ofS (putS i (.ow ds) s1)
    | .b j => .of (frz (.b j) s1) fun d s2 => ofS (putS i (.sh d) s2)) = _
  rw [h1, of_ok]
  dsimp only
  rw [putS_at h2 h3]; rfl
theorem call_o {cf : Nat → List Slot → Co} {f : Nat} {es : Exs} {s s1 s2 : S} {rs : List Rv} {sl sl' : List Slot} {ds : List D} (h1 : evs cf es s = .ok rs s1) (h2 : hand s1 rs = some sl) (h3 : dist (lent s1 rs) = true) (h4 : cf f sl = .ok (.o ds) sl') (h5 : back rs sl' s1 = some s2) :
    ev cf (.call f es) s = .ok (.o ds) s2 := by
  show eCall cf f (evs cf es) s = _
  unfold eCall
  rw [h1, bind_ok]
  simp only [h2, h3, h4, h5, if_true]
theorem call_v {cf : Nat → List Slot → Co} {f : Nat} {es : Exs} {s s1 s2 : S} {rs : List Rv} {sl sl' : List Slot} {d : D} (h1 : evs cf es s = .ok rs s1) (h2 : hand s1 rs = some sl) (h3 : dist (lent s1 rs) = true) (h4 : cf f sl = .ok (.v d) sl') (h5 : back rs sl' s1 = some s2) :
    ev cf (.call f es) s = .ok (.v d) s2 := by
  show eCall cf f (evs cf es) s = _
  unfold eCall
  rw [h1, bind_ok]
  simp only [h2, h3, h4, h5, if_true]
theorem evs_go {cf : Nat → List Slot → Co} {e : Ex} {es : Exs} {s s1 s2 : S} {r : Rv} {rs : List Rv} (h1 : ev cf e s = .ok r s1) (h2 : evs cf es s1 = .ok rs s2) : evs cf (.cons e es) s = .ok (opd r :: rs) s2 := by
  show (ev cf e s).bind (fun x s1 => (evs cf es s1).bind fun xs s2 => .ok (opd x :: xs) s2) = _
  rw [h1, bind_ok, h2, bind_ok]
theorem asg_o {cf : Nat → List Slot → Co} {i : Nat} {e : Ex} {s : S} {l : List Slot} {ds : List D} {x : Slot} (h1 : ev cf e s = .ok (.o ds) ⟨l⟩) (h2 : l[i]? = some x) (h3 : fr x = true) : xs cf (.asg (.var i) e) s = .nx ⟨l.set i (.ow ds)⟩ := by
  show Fo.of (ev cf e s) (fun r s1 => match r with
    | .v d => ofS (putS i (.sh d) s1)
    | .o ds => ofS (putS i (.ow ds) s1)
    | .b j => .of (frz (.b j) s1) fun d s2 => ofS (putS i (.sh d) s2)) = _
  rw [h1, of_ok]
  dsimp only
  rw [putS_at h2 h3]; rfl
end Z

/-! Z: the laws' drawn rows. -/
namespace Z
def rowBody (dr : Nat) : Ss :=
  (.cons (.asg (.var 3) (.call dr (.cons (.var 0) (.cons (.cst (.int 4)) .nil))))
  (.cons (.asg (.var 4) (.bin .mul (.lst (.cons (.idx (.cst (.str [46, 35])) (.call dr (.cons (.var 0) (.cons (.cst (.int 2)) .nil)))) .nil)) (.var 1)))
  (.cons (.iff (.cmp .eq (.var 3) (.cst (.int 0))) (.cons (.asg (.var 4) (.lc (.idx (.cst (.str [46, 35])) (.call dr (.cons (.var 0) (.cons (.cst (.int 2)) .nil)))) (.var 5) .rng1 (.cons (.var 1) .nil) (.cst (.bl true)) [5]))
  .nil) .nil)
  (.cons (.iff (.cmp .eq (.var 3) (.cst (.int 1))) (.cons (.asg (.var 6) (.bin .add (.cst (.int 1)) (.call dr (.cons (.var 0) (.cons (.var 1) .nil)))))
  (.cons (.asg (.var 7) (.call dr (.cons (.var 0) (.cons (.cst (.int 2)) .nil))))
  (.cons (.asg (.var 8) (.cst (.int 0)))
  (.cons (.fors (.var 5) .rng1 (.cons (.var 1) .nil) (.cons (.iff (.cmp .eq (.var 8) (.cst (.int 0))) (.cons (.asg (.var 7) (.bin .sub (.cst (.int 1)) (.var 7)))
  (.cons (.asg (.var 8) (.bin .add (.cst (.int 1)) (.call dr (.cons (.var 0) (.cons (.var 6) .nil)))))
  .nil)) .nil)
  (.cons (.sub 4 (.var 5) (.idx (.cst (.str [46, 35])) (.var 7)))
  (.cons (.asg (.var 8) (.bin .sub (.var 8) (.cst (.int 1))))
  .nil))))
  .nil)))) .nil)
  (.cons (.iff (.cmp .eq (.var 3) (.cst (.int 2))) (.cons (.asg (.var 4) (.blt .list (.cons (.var 2) .nil)))
  (.cons (.fors (.var 9) .rng1 (.cons (.cst (.int 3)) .nil) (.cons (.sub 4 (.call dr (.cons (.var 0) (.cons (.var 1) .nil))) (.idx (.cst (.str [46, 35])) (.call dr (.cons (.var 0) (.cons (.cst (.int 2)) .nil)))))
  .nil))
  .nil)) .nil)
  (.cons (.ret (.joi (.cst (.str [])) (.cons (.var 4) .nil)))
  .nil))))))
/-- a draw by cf's def dr -/
def Draws (cf : Nat → List Slot → Co) (dr : Nat) : Prop := ∀ (g : Int × Int) (m : Int), 0 < m → m < 1073741824 → cf dr [.le [.int g.1, .int g.2], .sh (.int m)] = .ok (.v (.int (drawV g m))) [.le [.int (drawS g m).1, .int (drawS g m).2], .sh (.int m)]
abbrev ch (c : Nat) : D := .str [c]
def Sg (cs : List Nat) : Prop := ∀ c ∈ cs, c = 46 ∨ c = 35
theorem Sg.rep {c : Nat} (n : Nat) (h : c = 46 ∨ c = 35) : Sg (List.replicate n c) := fun d hd => by rw [List.eq_of_mem_replicate hd]; exact h
theorem Sg.set {cs : List Nat} {c : Nat} (i : Nat) (h : Sg cs) (hc : c = 46 ∨ c = 35) : Sg (cs.set i c) := fun d hd => by
  rcases List.mem_or_eq_of_mem_set hd with hd | hd
  · exact h d hd
  · rw [hd]; exact hc
theorem Sg.app {cs : List Nat} {c : Nat} (h : Sg cs) (hc : c = 46 ∨ c = 35) : Sg (cs ++ [c]) := fun d hd => by
  rcases List.mem_append.mp hd with hd | hd
  · exact h d hd
  · rw [List.mem_singleton.mp hd]; exact hc
theorem join_goF {cf : Nat → List Slot → Co} {es : Exs} {s s2 : S} {cs : List Nat} (h2 : evF cf es s = .ok [.lst (cs.map ch)] s2) (hl : cs.length ≤ 1000000) : ev cf (.met .join (.cst (.str [])) es) s = .ok (.v (.str cs)) s2 := by
  show eMet .join (ev cf (.cst (.str []))) (evF cf es) s = _
  have h0 : ev cf (.cst (.str [])) s = .ok (.v (.str [])) s := rfl
  unfold eMet
  rw [h0, bind_ok]
  show (evF cf es s).bind _ = _
  rw [h2, bind_ok]
  have h3 : metR .join (.str []) [.lst (cs.map ch)] = some (.v (.str cs), none) := by
    show ((strsOf (cs.map fun c => D.str [c])).bind fun ss => if (ss.map List.length).sum + ss.length * ([] : List Nat).length ≤ SZ then some (Rv.v (.str (joinL [] ss)), (none : Option (List D))) else none) = _
    rw [strsOf_chars]
    show (if ((cs.map fun c => [c]).map List.length).sum + (cs.map fun c => [c]).length * 0 ≤ SZ then _ else _) = _
    rw [if_pos (by rw [sum_chars]; show cs.length + _ * 0 ≤ 16777216; omega), join_chars]
  show (match metR .join (.str []) [.lst (cs.map ch)] with
  | none => Ro.bad
  | some (r, none) => .ok r s2
  | some (r, some xs) => .bad) = _
  rw [h3]
theorem if_t {cf : Nat → List Slot → Co} {c : Ex} {a b : Ss} {s s1 : S} {f : Fo} (h1 : tst (ev cf c) s = .ok true s1) (h2 : xss cf a s1 = f) : xs cf (.iff c a b) s = f := by
  show Fo.of (tst (ev cf c) s) (fun k s1 => if k then xss cf a s1 else xss cf b s1) = f
  rw [h1, of_ok]; exact h2
theorem if_f {cf : Nat → List Slot → Co} {c : Ex} {a b : Ss} {s s1 : S} {f : Fo} (h1 : tst (ev cf c) s = .ok false s1) (h2 : xss cf b s1 = f) : xs cf (.iff c a b) s = f := by
  show Fo.of (tst (ev cf c) s) (fun k s1 => if k then xss cf a s1 else xss cf b s1) = f
  rw [h1, of_ok]; exact h2
/-- one of two signs -/
def sgE (dr : Nat) : Ex := (.idx (.cst (.str [46, 35])) (.call dr (.cons (.var 0) (.cons (.cst (.int 2)) .nil))))
theorem sg_run {cf : Nat → List Slot → Co} {dr : Nat} (hd : Draws cf dr) (g : Int × Int) (l : List Slot) : ∃ c, (c = 46 ∨ c = 35) ∧ ev cf (sgE dr) ⟨.le [.int g.1, .int g.2] :: l⟩ = .ok (.v (ch c)) ⟨.le [.int (drawS g 2).1, .int (drawS g 2).2] :: l⟩ := by
  have b2 := drawV_lt g (m := 2) (by omega)
  have hd' := hd g 2 (by omega) (by omega)
  have c2 : drawV g 2 = 0 ∨ drawV g 2 = 1 := by omega
  unfold sgE
  rcases c2 with c2 | c2
  · exact ⟨46, .inl rfl, by simp [op2_some, ev_cst, ev_var, ev_bin, ev_neg, ev_not, ev_and, ev_or, ev_cmp, ev_chn, ev_isN, ev_notN, ev_ife, ev_tup, ev_lst, ev_idx, ev_slc, ev_call, ev_blt, ev_met, ev_joi, ev_lc, ev_isi, tst_eq, evI_eq, evs_nil, evs_cons, evF_nil, evF_cons, evo_no, evo_so, xs_asg, xs_asgT, xs_par, xs_sub, xs_exp, xs_ret, xs_retN, xs_if, xs_for, xs_whl, xs_brk, xs_rse, xs_cnt, xs_pas, xss_nil, xss_cons, itK_seq, itK_rng1, itK_rng2, itK_rng3, itK_enm, itK_zip, bind_ok, bind_bad, of_ok, fbind_nx, fbind_rt, fbind_bk, fbind_ct, ofO_some, ofS_some, cnt_v, cnt_o, cnt_b, cntS_eq, frz_v, frz_o, frz_b, fr_no, fr_sh, fr_ow, fr_le, fr_lf, fr_lk, putS_fr, mutS_eq, SZ, idxV, slcV, metV, mokV, mok, inS, isiV, joiV, idxR, ixN_nat, ixN_num, binR, addR, mulR, intR, cmpR, D.tr, CM, opd, slcR, bltR, metR, hand, lent, dist, back, cnts, asgT, asgTs, D.eqv, eqvL, D.pl, plL, D.dep, depL, lockO, itemsOf, unlock, freeS, wipeS, restS, D.flat, hd', c2]⟩
  · exact ⟨35, .inr rfl, by simp [op2_some, ev_cst, ev_var, ev_bin, ev_neg, ev_not, ev_and, ev_or, ev_cmp, ev_chn, ev_isN, ev_notN, ev_ife, ev_tup, ev_lst, ev_idx, ev_slc, ev_call, ev_blt, ev_met, ev_joi, ev_lc, ev_isi, tst_eq, evI_eq, evs_nil, evs_cons, evF_nil, evF_cons, evo_no, evo_so, xs_asg, xs_asgT, xs_par, xs_sub, xs_exp, xs_ret, xs_retN, xs_if, xs_for, xs_whl, xs_brk, xs_rse, xs_cnt, xs_pas, xss_nil, xss_cons, itK_seq, itK_rng1, itK_rng2, itK_rng3, itK_enm, itK_zip, bind_ok, bind_bad, of_ok, fbind_nx, fbind_rt, fbind_bk, fbind_ct, ofO_some, ofS_some, cnt_v, cnt_o, cnt_b, cntS_eq, frz_v, frz_o, frz_b, fr_no, fr_sh, fr_ow, fr_le, fr_lf, fr_lk, putS_fr, mutS_eq, SZ, idxV, slcV, metV, mokV, mok, inS, isiV, joiV, idxR, ixN_nat, ixN_num, binR, addR, mulR, intR, cmpR, D.tr, CM, opd, slcR, bltR, metR, hand, lent, dist, back, cnts, asgT, asgTs, D.eqv, eqvL, D.pl, plL, D.dep, depL, lockO, itemsOf, unlock, freeS, wipeS, restS, D.flat, hd', c2]⟩
/-- the row so far: the bag, the row's signs -/
def RowS (b : Nat) (above : List Nat) (way : Int) (s : S) : Prop := ∃ (g : Int × Int) (cs : List Nat) (x5 x6 x7 x8 x9 : Slot), cs.length = b ∧ Sg cs ∧ fr x5 = true ∧ fr x6 = true ∧ fr x7 = true ∧ fr x8 = true ∧ fr x9 = true ∧
  s = ⟨[.le [.int g.1, .int g.2], .sh (.int (b : Int)), .sh (.str above), .sh (.int way), .ow (cs.map ch), x5, x6, x7, x8, x9]⟩
theorem map_set (cs : List Nat) (i c : Nat) : (cs.map ch).set i (ch c) = (cs.set i c).map ch := by rw [List.map_set]
theorem rep_one {α : Type} (n : Nat) (x : α) : rep n [x] = List.replicate n x := by
  unfold rep
  induction n with
  | zero => rfl
  | succ n ih => rw [List.replicate_succ, List.flatten_cons, ih]; rfl
section
variable {cf : Nat → List Slot → Co} {dr : Nat} (hd : Draws cf dr) {b : Nat} (hb1 : 1 ≤ b) (hb2 : b ≤ 1000) {above : List Nat} (ha : above.length = b) (hA : Sg above)
include hd hb1 hb2
theorem row_s2 (g : Int × Int) (A3 A5 A6 A7 A8 A9 : Slot) : ∃ (g' : Int × Int) (cs : List Nat), cs.length = b ∧ Sg cs ∧ xs cf (.asg (.var 4) (.bin .mul (.lst (.cons (sgE dr) .nil)) (.var 1))) ⟨[.le [.int g.1, .int g.2], .sh (.int (b : Int)), .sh (.str above), A3, .no, A5, A6, A7, A8, A9]⟩
    = .nx ⟨[.le [.int (Prod.fst g'), .int (Prod.snd g')], .sh (.int (b : Int)), .sh (.str above), A3, .ow (cs.map ch), A5, A6, A7, A8, A9]⟩ := by
  obtain ⟨c, hc, h⟩ := sg_run hd g [.sh (.int (b : Int)), .sh (.str above), A3, .no, A5, A6, A7, A8, A9]
  refine ⟨drawS g 2, List.replicate b c, List.length_replicate .., Sg.rep b hc, ?_⟩
  have k1 : okI (b : Int) = true := okI_nat (by omega)
  have k3 : b ≤ 16777216 := by omega
  have e : (List.replicate b c).map ch = List.replicate b (ch c) := List.map_replicate ..
  rw [e]
  generalize sgE dr = E at h
  simp [op2_some, ev_cst, ev_var, ev_bin, ev_neg, ev_not, ev_and, ev_or, ev_cmp, ev_chn, ev_isN, ev_notN, ev_ife, ev_tup, ev_lst, ev_idx, ev_slc, ev_call, ev_blt, ev_met, ev_joi, ev_lc, ev_isi, tst_eq, evI_eq, evs_nil, evs_cons, evF_nil, evF_cons, evo_no, evo_so, xs_asg, xs_asgT, xs_par, xs_sub, xs_exp, xs_ret, xs_retN, xs_if, xs_for, xs_whl, xs_brk, xs_rse, xs_cnt, xs_pas, xss_nil, xss_cons, itK_seq, itK_rng1, itK_rng2, itK_rng3, itK_enm, itK_zip, bind_ok, bind_bad, of_ok, fbind_nx, fbind_rt, fbind_bk, fbind_ct, ofO_some, ofS_some, cnt_v, cnt_o, cnt_b, cntS_eq, frz_v, frz_o, frz_b, fr_no, fr_sh, fr_ow, fr_le, fr_lf, fr_lk, putS_fr, mutS_eq, SZ, idxV, slcV, metV, mokV, mok, inS, isiV, joiV, idxR, ixN_nat, ixN_num, binR, addR, mulR, intR, cmpR, D.tr, CM, opd, slcR, bltR, metR, hand, lent, dist, back, cnts, asgT, asgTs, D.eqv, eqvL, D.pl, plL, D.dep, depL, lockO, itemsOf, unlock, freeS, wipeS, restS, D.flat, h, k1, k3, rep_one]
theorem row_comp (g : Int × Int) (A3 : Slot) (cs0 : List Nat) (A6 A7 A8 A9 : Slot) : ∃ (g' : Int × Int) (cs : List Nat), cs.length = b ∧ Sg cs ∧ ev cf (.lc (sgE dr) (.var 5) .rng1 (.cons (.var 1) .nil) (.cst (.bl true)) [5]) ⟨[.le [.int g.1, .int g.2], .sh (.int (b : Int)), .sh (.str above), A3, .ow (cs0.map ch), .no, A6, A7, A8, A9]⟩
    = .ok (.o (cs.map ch)) ⟨[.le [.int (Prod.fst g'), .int (Prod.snd g')], .sh (.int (b : Int)), .sh (.str above), A3, .ow (cs0.map ch), .no, A6, A7, A8, A9]⟩ := by
  obtain ⟨acc, s', hl, ⟨cs, g', hcl, hS, rfl, rfl⟩, h⟩ := lcL_rng0 (t := .var 5) (vs := [5]) (n := b) (fc := tst (ev cf (.cst (.bl true)))) (fe := ev cf (sgE dr))
    (s := ⟨[.le [.int g.1, .int g.2], .sh (.int (b : Int)), .sh (.str above), A3, .ow (cs0.map ch), .no, A6, A7, A8, A9]⟩) (by show b ≤ 16777216; omega)
    (fun k acc s => ∃ (cs : List Nat) (g : Int × Int), cs.length = k ∧ Sg cs ∧ acc = cs.map ch ∧ s = ⟨[.le [.int g.1, .int g.2], .sh (.int (b : Int)), .sh (.str above), A3, .ow (cs0.map ch), .no, A6, A7, A8, A9]⟩)
    ⟨[], g, rfl, (fun c hc => by cases hc), rfl, rfl⟩ (fun k acc s hk ⟨cs, g, hl, hS, ea, es⟩ => by
      subst ea es
      obtain ⟨c, hc, h⟩ := sg_run hd g [.sh (.int (b : Int)), .sh (.str above), A3, .ow (cs0.map ch), .sh (.int (k : Int)), A6, A7, A8, A9]
      refine ⟨⟨[.le [.int g.1, .int g.2], .sh (.int (b : Int)), .sh (.str above), A3, .ow (cs0.map ch), .sh (.int (k : Int)), A6, A7, A8, A9]⟩, ⟨[.le [.int g.1, .int g.2], .sh (.int (b : Int)), .sh (.str above), A3, .ow (cs0.map ch), .sh (.int (k : Int)), A6, A7, A8, A9]⟩, ⟨[.le [.int (drawS g 2).1, .int (drawS g 2).2], .sh (.int (b : Int)), .sh (.str above), A3, .ow (cs0.map ch), .sh (.int (k : Int)), A6, A7, A8, A9]⟩, ch c, rfl, rfl, ?_, cs ++ [c], drawS g 2, by simp [hl], hS.app hc, by simp, rfl⟩
      rw [h]; rfl)
  exact ⟨g', cs, by omega, hS, lc_go (rng_go (n := b) (s1 := ⟨[.le [.int g.1, .int g.2], .sh (.int (b : Int)), .sh (.str above), A3, .ow (cs0.map ch), .no, A6, A7, A8, A9]⟩) rfl (by omega)) rfl h⟩
/-- runs of drawn lengths -/
def runB (dr : Nat) : Ss := (.cons (.iff (.cmp .eq (.var 8) (.cst (.int 0))) (.cons (.asg (.var 7) (.bin .sub (.cst (.int 1)) (.var 7)))
  (.cons (.asg (.var 8) (.bin .add (.cst (.int 1)) (.call dr (.cons (.var 0) (.cons (.var 6) .nil)))))
  .nil)) .nil)
  (.cons (.sub 4 (.var 5) (.idx (.cst (.str [46, 35])) (.var 7)))
  (.cons (.asg (.var 8) (.bin .sub (.var 8) (.cst (.int 1))))
  .nil)))
theorem run_step (g : Int × Int) (A3 A9 : Slot) (cs : List Nat) (hl : cs.length = b) (hS : Sg cs) (k : Nat) (hk : k < b) (m : Int) (hm1 : 1 ≤ m) (hm2 : m ≤ 1001) (c : Int) (hc : c = 0 ∨ c = 1) (left : Int) (h0 : 0 ≤ left) :
    ∃ (g' : Int × Int) (cs' : List Nat) (c' left' : Int), cs'.length = b ∧ Sg cs' ∧ (c' = 0 ∨ c' = 1) ∧ 0 ≤ left' ∧ xss cf (runB dr) ⟨[.le [.int g.1, .int g.2], .sh (.int (b : Int)), .sh (.str above), A3, .ow (cs.map ch), .sh (.int (k : Int)), .sh (.int m), .sh (.int c), .sh (.int left), A9]⟩
    = .nx ⟨[.le [.int (Prod.fst g'), .int (Prod.snd g')], .sh (.int (b : Int)), .sh (.str above), A3, .ow (cs'.map ch), .sh (.int (k : Int)), .sh (.int m), .sh (.int c'), .sh (.int left'), A9]⟩ := by
  have hk' : k < cs.length := by omega
  -- behind the first statement
  have tail : ∀ (g : Int × Int) (c left : Int), (c = 0 ∨ c = 1) → 1 ≤ left → ∃ (cs' : List Nat), cs'.length = b ∧ Sg cs' ∧ xss cf (.cons (.sub 4 (.var 5) (.idx (.cst (.str [46, 35])) (.var 7))) (.cons (.asg (.var 8) (.bin .sub (.var 8) (.cst (.int 1)))) .nil)) ⟨[.le [.int g.1, .int g.2], .sh (.int (b : Int)), .sh (.str above), A3, .ow (cs.map ch), .sh (.int (k : Int)), .sh (.int m), .sh (.int c), .sh (.int left), A9]⟩
      = .nx ⟨[.le [.int g.1, .int g.2], .sh (.int (b : Int)), .sh (.str above), A3, .ow (cs'.map ch), .sh (.int (k : Int)), .sh (.int m), .sh (.int c), .sh (.int (left - 1)), A9]⟩ := by
    intro g c left hc _
    rcases hc with rfl | rfl
    · refine ⟨cs.set k 46, by simp [hl], hS.set k (.inl rfl), ?_⟩
      rw [← map_set]
      simp [op2_some, ev_cst, ev_var, ev_bin, ev_neg, ev_not, ev_and, ev_or, ev_cmp, ev_chn, ev_isN, ev_notN, ev_ife, ev_tup, ev_lst, ev_idx, ev_slc, ev_call, ev_blt, ev_met, ev_joi, ev_lc, ev_isi, tst_eq, evI_eq, evs_nil, evs_cons, evF_nil, evF_cons, evo_no, evo_so, xs_asg, xs_asgT, xs_par, xs_sub, xs_exp, xs_ret, xs_retN, xs_if, xs_for, xs_whl, xs_brk, xs_rse, xs_cnt, xs_pas, xss_nil, xss_cons, itK_seq, itK_rng1, itK_rng2, itK_rng3, itK_enm, itK_zip, bind_ok, bind_bad, of_ok, fbind_nx, fbind_rt, fbind_bk, fbind_ct, ofO_some, ofS_some, cnt_v, cnt_o, cnt_b, cntS_eq, frz_v, frz_o, frz_b, fr_no, fr_sh, fr_ow, fr_le, fr_lf, fr_lk, putS_fr, mutS_eq, SZ, idxV, slcV, metV, mokV, mok, inS, isiV, joiV, idxR, ixN_nat, ixN_num, binR, addR, mulR, intR, cmpR, D.tr, CM, opd, slcR, bltR, metR, hand, lent, dist, back, cnts, asgT, asgTs, D.eqv, eqvL, D.pl, plL, D.dep, depL, lockO, itemsOf, unlock, freeS, wipeS, restS, D.flat, subE, hk']
    · refine ⟨cs.set k 35, by simp [hl], hS.set k (.inr rfl), ?_⟩
      rw [← map_set]
      simp [op2_some, ev_cst, ev_var, ev_bin, ev_neg, ev_not, ev_and, ev_or, ev_cmp, ev_chn, ev_isN, ev_notN, ev_ife, ev_tup, ev_lst, ev_idx, ev_slc, ev_call, ev_blt, ev_met, ev_joi, ev_lc, ev_isi, tst_eq, evI_eq, evs_nil, evs_cons, evF_nil, evF_cons, evo_no, evo_so, xs_asg, xs_asgT, xs_par, xs_sub, xs_exp, xs_ret, xs_retN, xs_if, xs_for, xs_whl, xs_brk, xs_rse, xs_cnt, xs_pas, xss_nil, xss_cons, itK_seq, itK_rng1, itK_rng2, itK_rng3, itK_enm, itK_zip, bind_ok, bind_bad, of_ok, fbind_nx, fbind_rt, fbind_bk, fbind_ct, ofO_some, ofS_some, cnt_v, cnt_o, cnt_b, cntS_eq, frz_v, frz_o, frz_b, fr_no, fr_sh, fr_ow, fr_le, fr_lf, fr_lk, putS_fr, mutS_eq, SZ, idxV, slcV, metV, mokV, mok, inS, isiV, joiV, idxR, ixN_nat, ixN_num, binR, addR, mulR, intR, cmpR, D.tr, CM, opd, slcR, bltR, metR, hand, lent, dist, back, cnts, asgT, asgTs, D.eqv, eqvL, D.pl, plL, D.dep, depL, lockO, itemsOf, unlock, freeS, wipeS, restS, D.flat, subE, hk']
  unfold runB
  by_cases hz : left = 0
  · subst hz
    have b1 := drawV_lt g (m := m) (by omega)
    have hd' := hd g m (by omega) (by omega)
    obtain ⟨cs', h1, h2, h3⟩ := tail (drawS g m) (1 - c) (1 + drawV g m) (by omega) (by omega)
    refine ⟨drawS g m, cs', 1 - c, 1 + drawV g m - 1, h1, h2, by omega, by omega, xss_go (s1 := ⟨[.le [.int (drawS g m).1, .int (drawS g m).2], .sh (.int (b : Int)), .sh (.str above), A3, .ow (cs.map ch), .sh (.int (k : Int)), .sh (.int m), .sh (.int (1 - c)), .sh (.int (1 + drawV g m)), A9]⟩) ?_ h3⟩
    simp [op2_some, ev_cst, ev_var, ev_bin, ev_neg, ev_not, ev_and, ev_or, ev_cmp, ev_chn, ev_isN, ev_notN, ev_ife, ev_tup, ev_lst, ev_idx, ev_slc, ev_call, ev_blt, ev_met, ev_joi, ev_lc, ev_isi, tst_eq, evI_eq, evs_nil, evs_cons, evF_nil, evF_cons, evo_no, evo_so, xs_asg, xs_asgT, xs_par, xs_sub, xs_exp, xs_ret, xs_retN, xs_if, xs_for, xs_whl, xs_brk, xs_rse, xs_cnt, xs_pas, xss_nil, xss_cons, itK_seq, itK_rng1, itK_rng2, itK_rng3, itK_enm, itK_zip, bind_ok, bind_bad, of_ok, fbind_nx, fbind_rt, fbind_bk, fbind_ct, ofO_some, ofS_some, cnt_v, cnt_o, cnt_b, cntS_eq, frz_v, frz_o, frz_b, fr_no, fr_sh, fr_ow, fr_le, fr_lf, fr_lk, putS_fr, mutS_eq, SZ, idxV, slcV, metV, mokV, mok, inS, isiV, joiV, idxR, ixN_nat, ixN_num, binR, addR, mulR, intR, cmpR, D.tr, CM, opd, slcR, bltR, metR, hand, lent, dist, back, cnts, asgT, asgTs, D.eqv, eqvL, D.pl, plL, D.dep, depL, lockO, itemsOf, unlock, freeS, wipeS, restS, D.flat, hd']
  · obtain ⟨cs', h1, h2, h3⟩ := tail g c left hc (by omega)
    refine ⟨g, cs', c, left - 1, h1, h2, hc, by omega, xss_go (s1 := ⟨[.le [.int g.1, .int g.2], .sh (.int (b : Int)), .sh (.str above), A3, .ow (cs.map ch), .sh (.int (k : Int)), .sh (.int m), .sh (.int c), .sh (.int left), A9]⟩) ?_ h3⟩
    simp [op2_some, ev_cst, ev_var, ev_bin, ev_neg, ev_not, ev_and, ev_or, ev_cmp, ev_chn, ev_isN, ev_notN, ev_ife, ev_tup, ev_lst, ev_idx, ev_slc, ev_call, ev_blt, ev_met, ev_joi, ev_lc, ev_isi, tst_eq, evI_eq, evs_nil, evs_cons, evF_nil, evF_cons, evo_no, evo_so, xs_asg, xs_asgT, xs_par, xs_sub, xs_exp, xs_ret, xs_retN, xs_if, xs_for, xs_whl, xs_brk, xs_rse, xs_cnt, xs_pas, xss_nil, xss_cons, itK_seq, itK_rng1, itK_rng2, itK_rng3, itK_enm, itK_zip, bind_ok, bind_bad, of_ok, fbind_nx, fbind_rt, fbind_bk, fbind_ct, ofO_some, ofS_some, cnt_v, cnt_o, cnt_b, cntS_eq, frz_v, frz_o, frz_b, fr_no, fr_sh, fr_ow, fr_le, fr_lf, fr_lk, putS_fr, mutS_eq, SZ, idxV, slcV, metV, mokV, mok, inS, isiV, joiV, idxR, ixN_nat, ixN_num, binR, addR, mulR, intR, cmpR, D.tr, CM, opd, slcR, bltR, metR, hand, lent, dist, back, cnts, asgT, asgTs, D.eqv, eqvL, D.pl, plL, D.dep, depL, lockO, itemsOf, unlock, freeS, wipeS, restS, D.flat, hz]
theorem way1_run (g : Int × Int) (cs : List Nat) (hl : cs.length = b) (hS : Sg cs) (A3 A9 : Slot) :
    ∃ (g' : Int × Int) (cs' : List Nat) (x5 x6 x7 x8 : Slot), cs'.length = b ∧ Sg cs' ∧ xss cf (.cons (.asg (.var 6) (.bin .add (.cst (.int 1)) (.call dr (.cons (.var 0) (.cons (.var 1) .nil)))))
  (.cons (.asg (.var 7) (.call dr (.cons (.var 0) (.cons (.cst (.int 2)) .nil))))
  (.cons (.asg (.var 8) (.cst (.int 0)))
  (.cons (.fors (.var 5) .rng1 (.cons (.var 1) .nil) (runB dr)) .nil)))) ⟨[.le [.int g.1, .int g.2], .sh (.int (b : Int)), .sh (.str above), A3, .ow (cs.map ch), .no, .no, .no, .no, A9]⟩
    = .nx ⟨[.le [.int (Prod.fst g'), .int (Prod.snd g')], .sh (.int (b : Int)), .sh (.str above), A3, .ow (cs'.map ch), x5, x6, x7, x8, A9]⟩ := by
  have b1 := drawV_lt g (m := (b : Int)) (by omega)
  have b2 := drawV_lt (drawS g (b : Int)) (m := 2) (by omega)
  have d1 := hd g (b : Int) (by omega) (by omega)
  have d2 := hd (drawS g (b : Int)) 2 (by omega) (by omega)
  obtain ⟨s', ⟨g', cs', c, left, x5, f5, h1, h2, h3, h4, rfl⟩, h⟩ := forL_rng (t := .var 5) (lk := []) (n := b) (fb := xss cf (runB dr))
    (s := ⟨[.le [.int (drawS (drawS g (b : Int)) 2).1, .int (drawS (drawS g (b : Int)) 2).2], .sh (.int (b : Int)), .sh (.str above), A3, .ow (cs.map ch), .no, .sh (.int (1 + drawV g (b : Int))), .sh (.int (drawV (drawS g (b : Int)) 2)), .sh (.int 0), A9]⟩)
    (fun k s => ∃ (gg : Int × Int) (cs : List Nat) (c left : Int) (x5 : Slot), fr x5 = true ∧ cs.length = b ∧ Sg cs ∧ (c = 0 ∨ c = 1) ∧ 0 ≤ left ∧ s = ⟨[.le [.int gg.1, .int gg.2], .sh (.int (b : Int)), .sh (.str above), A3, .ow (cs.map ch), x5, .sh (.int (1 + drawV g (b : Int))), .sh (.int c), .sh (.int left), A9]⟩)
    ⟨_, cs, drawV (drawS g (b : Int)) 2, 0, .no, rfl, hl, hS, by omega, by omega, rfl⟩ (fun k s hk ⟨g1, cs, c, left, x5, f5, h1, h2, h3, h4, e⟩ => by
      subst e
      obtain ⟨g2, cs2, c2, left2, q1, q2, q3, q4, q5⟩ := run_step hd hb1 hb2 (above := above) g1 A3 A9 cs h1 h2 k hk (1 + drawV g (b : Int)) (by omega) (by omega) c h3 left h4
      exact ⟨_, _, putS_at (x := x5) rfl f5, .inl q5, g2, cs2, c2, left2, _, rfl, q1, q2, q3, q4, rfl⟩)
  refine ⟨g', cs', x5, .sh (.int (1 + drawV g (b : Int))), .sh (.int c), .sh (.int left), h1, h2, ?_⟩
  refine xss_go (s1 := ⟨[.le [.int (drawS g (b : Int)).1, .int (drawS g (b : Int)).2], .sh (.int (b : Int)), .sh (.str above), A3, .ow (cs.map ch), .no, .sh (.int (1 + drawV g (b : Int))), .no, .no, A9]⟩) (by simp [op2_some, ev_cst, ev_var, ev_bin, ev_neg, ev_not, ev_and, ev_or, ev_cmp, ev_chn, ev_isN, ev_notN, ev_ife, ev_tup, ev_lst, ev_idx, ev_slc, ev_call, ev_blt, ev_met, ev_joi, ev_lc, ev_isi, tst_eq, evI_eq, evs_nil, evs_cons, evF_nil, evF_cons, evo_no, evo_so, xs_asg, xs_asgT, xs_par, xs_sub, xs_exp, xs_ret, xs_retN, xs_if, xs_for, xs_whl, xs_brk, xs_rse, xs_cnt, xs_pas, xss_nil, xss_cons, itK_seq, itK_rng1, itK_rng2, itK_rng3, itK_enm, itK_zip, bind_ok, bind_bad, of_ok, fbind_nx, fbind_rt, fbind_bk, fbind_ct, ofO_some, ofS_some, cnt_v, cnt_o, cnt_b, cntS_eq, frz_v, frz_o, frz_b, fr_no, fr_sh, fr_ow, fr_le, fr_lf, fr_lk, putS_fr, mutS_eq, SZ, idxV, slcV, metV, mokV, mok, inS, isiV, joiV, idxR, ixN_nat, ixN_num, binR, addR, mulR, intR, cmpR, D.tr, CM, opd, slcR, bltR, metR, hand, lent, dist, back, cnts, asgT, asgTs, D.eqv, eqvL, D.pl, plL, D.dep, depL, lockO, itemsOf, unlock, freeS, wipeS, restS, D.flat, d1])
    (xss_go (s1 := ⟨[.le [.int (drawS (drawS g (b : Int)) 2).1, .int (drawS (drawS g (b : Int)) 2).2], .sh (.int (b : Int)), .sh (.str above), A3, .ow (cs.map ch), .no, .sh (.int (1 + drawV g (b : Int))), .sh (.int (drawV (drawS g (b : Int)) 2)), .no, A9]⟩) (by simp [op2_some, ev_cst, ev_var, ev_bin, ev_neg, ev_not, ev_and, ev_or, ev_cmp, ev_chn, ev_isN, ev_notN, ev_ife, ev_tup, ev_lst, ev_idx, ev_slc, ev_call, ev_blt, ev_met, ev_joi, ev_lc, ev_isi, tst_eq, evI_eq, evs_nil, evs_cons, evF_nil, evF_cons, evo_no, evo_so, xs_asg, xs_asgT, xs_par, xs_sub, xs_exp, xs_ret, xs_retN, xs_if, xs_for, xs_whl, xs_brk, xs_rse, xs_cnt, xs_pas, xss_nil, xss_cons, itK_seq, itK_rng1, itK_rng2, itK_rng3, itK_enm, itK_zip, bind_ok, bind_bad, of_ok, fbind_nx, fbind_rt, fbind_bk, fbind_ct, ofO_some, ofS_some, cnt_v, cnt_o, cnt_b, cntS_eq, frz_v, frz_o, frz_b, fr_no, fr_sh, fr_ow, fr_le, fr_lf, fr_lk, putS_fr, mutS_eq, SZ, idxV, slcV, metV, mokV, mok, inS, isiV, joiV, idxR, ixN_nat, ixN_num, binR, addR, mulR, intR, cmpR, D.tr, CM, opd, slcR, bltR, metR, hand, lent, dist, back, cnts, asgT, asgTs, D.eqv, eqvL, D.pl, plL, D.dep, depL, lockO, itemsOf, unlock, freeS, wipeS, restS, D.flat, d2])
    (xss_go (s1 := ⟨[.le [.int (drawS (drawS g (b : Int)) 2).1, .int (drawS (drawS g (b : Int)) 2).2], .sh (.int (b : Int)), .sh (.str above), A3, .ow (cs.map ch), .no, .sh (.int (1 + drawV g (b : Int))), .sh (.int (drawV (drawS g (b : Int)) 2)), .sh (.int 0), A9]⟩) rfl
    (xss_go (for_go (rng_go (n := b) rfl (by omega)) h) rfl)))
def putB (dr : Nat) : Ss := (.cons (.sub 4 (.call dr (.cons (.var 0) (.cons (.var 1) .nil))) (sgE dr)) .nil)
theorem put_step (g : Int × Int) (A3 A5 A6 A7 A8 A9 : Slot) (cs : List Nat) (hl : cs.length = b) (hS : Sg cs) : ∃ (g' : Int × Int) (cs' : List Nat), cs'.length = b ∧ Sg cs' ∧
    xss cf (putB dr) ⟨[.le [.int g.1, .int g.2], .sh (.int (b : Int)), .sh (.str above), A3, .ow (cs.map ch), A5, A6, A7, A8, A9]⟩
    = .nx ⟨[.le [.int (Prod.fst g'), .int (Prod.snd g')], .sh (.int (b : Int)), .sh (.str above), A3, .ow (cs'.map ch), A5, A6, A7, A8, A9]⟩ := by
  obtain ⟨c, hc, h⟩ := sg_run hd g [.sh (.int (b : Int)), .sh (.str above), A3, .ow (cs.map ch), A5, A6, A7, A8, A9]
  have b1 := drawV_lt (drawS g 2) (m := (b : Int)) (by omega)
  have d1 := hd (drawS g 2) (b : Int) (by omega) (by omega)
  obtain ⟨p, hp⟩ := Int.eq_ofNat_of_zero_le b1.1
  have hpl : p < cs.length := by omega
  refine ⟨drawS (drawS g 2) (b : Int), cs.set p c, by simp [hl], hS.set p hc, ?_⟩
  rw [← map_set]
  unfold putB
  generalize sgE dr = E at h
  simp [op2_some, ev_cst, ev_var, ev_bin, ev_neg, ev_not, ev_and, ev_or, ev_cmp, ev_chn, ev_isN, ev_notN, ev_ife, ev_tup, ev_lst, ev_idx, ev_slc, ev_call, ev_blt, ev_met, ev_joi, ev_lc, ev_isi, tst_eq, evI_eq, evs_nil, evs_cons, evF_nil, evF_cons, evo_no, evo_so, xs_asg, xs_asgT, xs_par, xs_sub, xs_exp, xs_ret, xs_retN, xs_if, xs_for, xs_whl, xs_brk, xs_rse, xs_cnt, xs_pas, xss_nil, xss_cons, itK_seq, itK_rng1, itK_rng2, itK_rng3, itK_enm, itK_zip, bind_ok, bind_bad, of_ok, fbind_nx, fbind_rt, fbind_bk, fbind_ct, ofO_some, ofS_some, cnt_v, cnt_o, cnt_b, cntS_eq, frz_v, frz_o, frz_b, fr_no, fr_sh, fr_ow, fr_le, fr_lf, fr_lk, putS_fr, mutS_eq, SZ, idxV, slcV, metV, mokV, mok, inS, isiV, joiV, idxR, ixN_nat, ixN_num, binR, addR, mulR, intR, cmpR, D.tr, CM, opd, slcR, bltR, metR, hand, lent, dist, back, cnts, asgT, asgTs, D.eqv, eqvL, D.pl, plL, D.dep, depL, lockO, itemsOf, unlock, freeS, wipeS, restS, D.flat, subE, h, d1, hp, hpl]
theorem way2_run (g : Int × Int) (cs : List Nat) (A3 A5 A6 A7 A8 : Slot) (ha : above.length = b) (hA : Sg above) :
    ∃ (g' : Int × Int) (cs' : List Nat) (x9 : Slot), cs'.length = b ∧ Sg cs' ∧ xss cf (.cons (.asg (.var 4) (.blt .list (.cons (.var 2) .nil))) (.cons (.fors (.var 9) .rng1 (.cons (.cst (.int 3)) .nil) (putB dr)) .nil)) ⟨[.le [.int g.1, .int g.2], .sh (.int (b : Int)), .sh (.str above), A3, .ow (cs.map ch), A5, A6, A7, A8, .no]⟩
    = .nx ⟨[.le [.int (Prod.fst g'), .int (Prod.snd g')], .sh (.int (b : Int)), .sh (.str above), A3, .ow (cs'.map ch), A5, A6, A7, A8, x9]⟩ := by
  obtain ⟨s', ⟨g', cs', x9, f9, h1, h2, rfl⟩, h⟩ := forL_rng (t := .var 9) (lk := []) (n := 3) (fb := xss cf (putB dr))
    (s := ⟨[.le [.int g.1, .int g.2], .sh (.int (b : Int)), .sh (.str above), A3, .ow (above.map ch), A5, A6, A7, A8, .no]⟩)
    (fun k s => ∃ (gg : Int × Int) (cs : List Nat) (x9 : Slot), fr x9 = true ∧ cs.length = b ∧ Sg cs ∧ s = ⟨[.le [.int gg.1, .int gg.2], .sh (.int (b : Int)), .sh (.str above), A3, .ow (cs.map ch), A5, A6, A7, A8, x9]⟩)
    ⟨_, above, .no, rfl, ha, hA, rfl⟩ (fun k s hk ⟨g1, cs, x9, f9, h1, h2, e⟩ => by
      subst e
      obtain ⟨g2, cs2, q1, q2, q5⟩ := put_step hd hb1 hb2 (above := above) g1 A3 A5 A6 A7 A8 (.sh (.int (k : Int))) cs h1 h2
      exact ⟨_, _, putS_at (x := x9) rfl f9, .inl q5, g2, cs2, _, rfl, q1, q2, rfl⟩)
  have z : above.length ≤ 16777216 := by omega
  refine ⟨g', cs', x9, h1, h2, ?_⟩
  refine xss_go (s1 := ⟨[.le [.int g.1, .int g.2], .sh (.int (b : Int)), .sh (.str above), A3, .ow (above.map ch), A5, A6, A7, A8, .no]⟩) (by simp [op2_some, ev_cst, ev_var, ev_bin, ev_neg, ev_not, ev_and, ev_or, ev_cmp, ev_chn, ev_isN, ev_notN, ev_ife, ev_tup, ev_lst, ev_idx, ev_slc, ev_call, ev_blt, ev_met, ev_joi, ev_lc, ev_isi, tst_eq, evI_eq, evs_nil, evs_cons, evF_nil, evF_cons, evo_no, evo_so, xs_asg, xs_asgT, xs_par, xs_sub, xs_exp, xs_ret, xs_retN, xs_if, xs_for, xs_whl, xs_brk, xs_rse, xs_cnt, xs_pas, xss_nil, xss_cons, itK_seq, itK_rng1, itK_rng2, itK_rng3, itK_enm, itK_zip, bind_ok, bind_bad, of_ok, fbind_nx, fbind_rt, fbind_bk, fbind_ct, ofO_some, ofS_some, cnt_v, cnt_o, cnt_b, cntS_eq, frz_v, frz_o, frz_b, fr_no, fr_sh, fr_ow, fr_le, fr_lf, fr_lk, putS_fr, mutS_eq, SZ, idxV, slcV, metV, mokV, mok, inS, isiV, joiV, idxR, ixN_nat, ixN_num, binR, addR, mulR, intR, cmpR, D.tr, CM, opd, slcR, bltR, metR, hand, lent, dist, back, cnts, asgT, asgTs, D.eqv, eqvL, D.pl, plL, D.dep, depL, lockO, itemsOf, unlock, freeS, wipeS, restS, D.flat, z]) (xss_go (for_go (rng_go (n := 3) rfl (by omega)) h) rfl)
theorem row_run (ha : above.length = b) (hA : Sg above) (g : Int × Int) : ∃ (row : List Nat) (g' : Int × Int), row.length = b ∧ Sg row ∧
    runDf ⟨3, 10, rowBody dr⟩ cf [.le [.int g.1, .int g.2], .sh (.int (b : Int)), .sh (.str above)] = .ok (.v (.str row)) [.le [.int (Prod.fst g'), .int (Prod.snd g')], .sh (.int (b : Int)), .sh (.str above)] := by
  have b0 := drawV_lt g (m := 4) (by omega)
  have d0 := hd g 4 (by omega) (by omega)
  have w : drawV g 4 = 0 ∨ drawV g 4 = 1 ∨ drawV g 4 = 2 ∨ drawV g 4 = 3 := by omega
  obtain ⟨g1, c1, l1, s1, h1⟩ := row_s2 hd hb1 hb2 (above := above) (drawS g 4) (.sh (.int (drawV g 4))) .no .no .no .no .no
  -- the last statement
  have fin : ∀ (g2 : Int × Int) (cs : List Nat) (A3 A5 A6 A7 A8 A9 : Slot), cs.length = b → xss cf (.cons (.ret (.joi (.cst (.str [])) (.cons (.var 4) .nil))) .nil) ⟨[.le [.int g2.1, .int g2.2], .sh (.int (b : Int)), .sh (.str above), A3, .ow (cs.map ch), A5, A6, A7, A8, A9]⟩
      = .rt (.v (.str cs)) ⟨[.le [.int g2.1, .int g2.2], .sh (.int (b : Int)), .sh (.str above), A3, .ow (cs.map ch), A5, A6, A7, A8, A9]⟩ := by
    intro g2 cs A3 A5 A6 A7 A8 A9 hl
    have hj := joi_go (cf := cf) (es := .cons (.var 4) .nil) (s := ⟨[.le [.int g2.1, .int g2.2], .sh (.int (b : Int)), .sh (.str above), A3, .ow (cs.map ch), A5, A6, A7, A8, A9]⟩) (s2 := ⟨[.le [.int g2.1, .int g2.2], .sh (.int (b : Int)), .sh (.str above), A3, .ow (cs.map ch), A5, A6, A7, A8, A9]⟩) (rs := [.b 4]) (cs := cs) rfl rfl (by omega)
    show (xs cf (.ret _) _).bind _ = _
    rw [xs_ret, hj]
    rfl
  have wt : ∀ (c v : Int) (B0 B1 B2 B4 B5 B6 B7 B8 B9 : Slot), tst (ev cf (.cmp .eq (.var 3) (.cst (.int c)))) ⟨[B0, B1, B2, .sh (.int v), B4, B5, B6, B7, B8, B9]⟩ = .ok (v == c) ⟨[B0, B1, B2, .sh (.int v), B4, B5, B6, B7, B8, B9]⟩ := by
    intros
    simp [op2_some, ev_cst, ev_var, ev_bin, ev_neg, ev_not, ev_and, ev_or, ev_cmp, ev_chn, ev_isN, ev_notN, ev_ife, ev_tup, ev_lst, ev_idx, ev_slc, ev_call, ev_blt, ev_met, ev_joi, ev_lc, ev_isi, tst_eq, evI_eq, evs_nil, evs_cons, evF_nil, evF_cons, evo_no, evo_so, xs_asg, xs_asgT, xs_par, xs_sub, xs_exp, xs_ret, xs_retN, xs_if, xs_for, xs_whl, xs_brk, xs_rse, xs_cnt, xs_pas, xss_nil, xss_cons, itK_seq, itK_rng1, itK_rng2, itK_rng3, itK_enm, itK_zip, bind_ok, bind_bad, of_ok, fbind_nx, fbind_rt, fbind_bk, fbind_ct, ofO_some, ofS_some, cnt_v, cnt_o, cnt_b, cntS_eq, frz_v, frz_o, frz_b, fr_no, fr_sh, fr_ow, fr_le, fr_lf, fr_lk, putS_fr, mutS_eq, SZ, idxV, slcV, metV, mokV, mok, inS, isiV, joiV, idxR, ixN_nat, ixN_num, binR, addR, mulR, intR, cmpR, D.tr, CM, opd, slcR, bltR, metR, hand, lent, dist, back, cnts, asgT, asgTs, D.eqv, eqvL, D.pl, plL, D.dep, depL, lockO, itemsOf, unlock, freeS, wipeS, restS, D.flat]
  have st1 : xs cf (.asg (.var 3) (.call dr (.cons (.var 0) (.cons (.cst (.int 4)) .nil)))) ⟨[.le [.int g.1, .int g.2], .sh (.int (b : Int)), .sh (.str above), .no, .no, .no, .no, .no, .no, .no]⟩
      = .nx ⟨[.le [.int (drawS g 4).1, .int (drawS g 4).2], .sh (.int (b : Int)), .sh (.str above), .sh (.int (drawV g 4)), .no, .no, .no, .no, .no, .no]⟩ := by simp [op2_some, ev_cst, ev_var, ev_bin, ev_neg, ev_not, ev_and, ev_or, ev_cmp, ev_chn, ev_isN, ev_notN, ev_ife, ev_tup, ev_lst, ev_idx, ev_slc, ev_call, ev_blt, ev_met, ev_joi, ev_lc, ev_isi, tst_eq, evI_eq, evs_nil, evs_cons, evF_nil, evF_cons, evo_no, evo_so, xs_asg, xs_asgT, xs_par, xs_sub, xs_exp, xs_ret, xs_retN, xs_if, xs_for, xs_whl, xs_brk, xs_rse, xs_cnt, xs_pas, xss_nil, xss_cons, itK_seq, itK_rng1, itK_rng2, itK_rng3, itK_enm, itK_zip, bind_ok, bind_bad, of_ok, fbind_nx, fbind_rt, fbind_bk, fbind_ct, ofO_some, ofS_some, cnt_v, cnt_o, cnt_b, cntS_eq, frz_v, frz_o, frz_b, fr_no, fr_sh, fr_ow, fr_le, fr_lf, fr_lk, putS_fr, mutS_eq, SZ, idxV, slcV, metV, mokV, mok, inS, isiV, joiV, idxR, ixN_nat, ixN_num, binR, addR, mulR, intR, cmpR, D.tr, CM, opd, slcR, bltR, metR, hand, lent, dist, back, cnts, asgT, asgTs, D.eqv, eqvL, D.pl, plL, D.dep, depL, lockO, itemsOf, unlock, freeS, wipeS, restS, D.flat, d0]
  rcases w with w | w | w | w
  · rw [w] at h1 st1
    obtain ⟨g2, c2, l2, s2, h2⟩ := row_comp hd hb1 hb2 (above := above) g1 (.sh (.int 0)) c1 .no .no .no .no
    refine ⟨c2, g2, l2, s2, run_v ⟨rfl, (show 3 ≤ 10 from by decide)⟩ (xss_go st1 (xss_go h1 (xss_go (if_t (wt 0 0 _ _ _ _ _ _ _ _ _) (xss_go (asg_o h2 (x := .ow (c1.map ch)) rfl rfl) rfl)) (xss_go (if_f (wt 1 0 _ _ _ _ _ _ _ _ _) rfl) (xss_go (if_f (wt 2 0 _ _ _ _ _ _ _ _ _) rfl) (fin _ _ _ _ _ _ _ _ l2)))))) rfl rfl⟩
  · rw [w] at h1 st1
    obtain ⟨g2, c2, x5, x6, x7, x8, l2, s2, h2⟩ := way1_run hd hb1 hb2 (above := above) g1 c1 l1 s1 (.sh (.int 1)) .no
    refine ⟨c2, g2, l2, s2, run_v ⟨rfl, (show 3 ≤ 10 from by decide)⟩ (xss_go st1 (xss_go h1 (xss_go (if_f (wt 0 1 _ _ _ _ _ _ _ _ _) rfl) (xss_go (if_t (wt 1 1 _ _ _ _ _ _ _ _ _) h2) (xss_go (if_f (wt 2 1 _ _ _ _ _ _ _ _ _) rfl) (fin _ _ _ _ _ _ _ _ l2)))))) rfl rfl⟩
  · rw [w] at h1 st1
    obtain ⟨g2, c2, x9, l2, s2, h2⟩ := way2_run hd hb1 hb2 (above := above) g1 c1 (.sh (.int 2)) .no .no .no .no ha hA
    refine ⟨c2, g2, l2, s2, run_v ⟨rfl, (show 3 ≤ 10 from by decide)⟩ (xss_go st1 (xss_go h1 (xss_go (if_f (wt 0 2 _ _ _ _ _ _ _ _ _) rfl) (xss_go (if_f (wt 1 2 _ _ _ _ _ _ _ _ _) rfl) (xss_go (if_t (wt 2 2 _ _ _ _ _ _ _ _ _) h2) (fin _ _ _ _ _ _ _ _ l2)))))) rfl rfl⟩
  · rw [w] at h1 st1
    refine ⟨c1, g1, l1, s1, run_v ⟨rfl, (show 3 ≤ 10 from by decide)⟩ (xss_go st1 (xss_go h1 (xss_go (if_f (wt 0 3 _ _ _ _ _ _ _ _ _) rfl) (xss_go (if_f (wt 1 3 _ _ _ _ _ _ _ _ _) rfl) (xss_go (if_f (wt 2 3 _ _ _ _ _ _ _ _ _) rfl) (fin _ _ _ _ _ _ _ _ l1)))))) rfl rfl⟩
end
end Z

/-! Z: runs of rows; lists walked. -/
namespace Z
abbrev nt (n : Nat) : D := .int (n : Int)
/-! comprehensions over a list -/
theorem lcL_all {t : Tg} {vs : List Nat} {fc : S → Ro Bool} {fe : S → Ro Rv} {s : S} (g : D → D) (items : List D)
    (step : ∀ d ∈ items, ∃ s1, asgT t d s = some s1 ∧ fc s1 = .ok true s1 ∧ (fe s1).bind frz = .ok (g d) s1 ∧ wipeS s1 vs = s) :
    ∀ acc : List D, acc.length + items.length ≤ SZ → lcL t vs fc fe items acc s = .ok (acc ++ items.map g) s := by
  induction items with
  | nil => intro acc _; simp [lcL]
  | cons d ds ih =>
    intro acc hl
    obtain ⟨s1, h1, h2, h3, h4⟩ := step d (List.mem_cons_self ..)
    rw [List.length_cons] at hl
    unfold lcL
    rw [h1]
    dsimp only
    rw [h2]
    dsimp only
    rw [h3]
    dsimp only
    rw [if_pos (by omega), h4, ih (fun d hd => step d (List.mem_cons_of_mem _ hd)) _ (by simp; omega)]
    simp
theorem lcL_all0 {t : Tg} {vs : List Nat} {fc : S → Ro Bool} {fe : S → Ro Rv} {s : S} (g : D → D) {items : List D} (hl : items.length ≤ SZ)
    (step : ∀ d ∈ items, ∃ s1, asgT t d s = some s1 ∧ fc s1 = .ok true s1 ∧ (fe s1).bind frz = .ok (g d) s1 ∧ wipeS s1 vs = s) :
    lcL t vs fc fe items [] s = .ok (items.map g) s := by
  have := lcL_all g items step [] (by simpa using hl)
  simpa using this
theorem blsOf_map {α : Type} (f : α → Bool) (l : List α) : blsOf (l.map fun a => D.bl (f a)) = some (l.map f) := by
  induction l with
  | nil => rfl
  | cons a l ih => simp [blsOf, ih]
theorem for_in {cf : Nat → List Slot → Co} {t : Tg} {es : Exs} {b : Ss} {s s1 s2 : S} {items : List D} (h1 : evI .seq (evs cf es) s = .ok (items, []) s1) (h2 : forL t [] (xss cf b) items s1 = .nx s2) : xs cf (.fors t .seq es b) s = .nx s2 := for_go h1 h2
/-! draws wherever the bag stands -/
abbrev bg (g : Int × Int) : List D := [.int g.1, .int g.2]
theorem draw_ow {cf : Nat → List Slot → Co} {dr v : Nat} (hd : Draws cf dr) {e : Ex} {l l' : List Slot} {x : List D} {g : Int × Int} {m : Int} (hl : l[v]? = some (.ow x)) (he : ev cf e ⟨l⟩ = .ok (.v (.int m)) ⟨l'⟩) (hl' : l'[v]? = some (.ow (bg g))) (h1 : 0 < m) (h2 : m < 1073741824) :
    ev cf (.call dr (.cons (.var v) (.cons e .nil))) ⟨l⟩ = .ok (.v (.int (drawV g m))) ⟨l'.set v (.ow (bg (drawS g m)))⟩ := by
  refine call_v (rs := [.b v, .v (.int m)]) (s1 := ⟨l'⟩) (sl := [.le (bg g), .sh (.int m)]) (sl' := [.le (bg (drawS g m)), .sh (.int m)]) ?_ ?_ ?_ (hd g m h1 h2) ?_
  · refine evs_go (r := .b v) (s1 := ⟨l⟩) (by show getV v ⟨l⟩ = _; simp only [getV, hl]) (evs_go (r := .v (.int m)) he rfl)
  · simp only [hand, hl']; rfl
  · simp only [lent, hl']; rfl
  · simp only [back, hl']
theorem draw_le {cf : Nat → List Slot → Co} {dr v : Nat} (hd : Draws cf dr) {e : Ex} {l l' : List Slot} {x : List D} {g : Int × Int} {m : Int} (hl : l[v]? = some (.le x)) (he : ev cf e ⟨l⟩ = .ok (.v (.int m)) ⟨l'⟩) (hl' : l'[v]? = some (.le (bg g))) (h1 : 0 < m) (h2 : m < 1073741824) :
    ev cf (.call dr (.cons (.var v) (.cons e .nil))) ⟨l⟩ = .ok (.v (.int (drawV g m))) ⟨l'.set v (.le (bg (drawS g m)))⟩ := by
  refine call_v (rs := [.b v, .v (.int m)]) (s1 := ⟨l'⟩) (sl := [.le (bg g), .sh (.int m)]) (sl' := [.le (bg (drawS g m)), .sh (.int m)]) ?_ ?_ ?_ (hd g m h1 h2) ?_
  · refine evs_go (r := .b v) (s1 := ⟨l⟩) (by show getV v ⟨l⟩ = _; simp only [getV, hl]) (evs_go (r := .v (.int m)) he rfl)
  · simp only [hand, hl']; rfl
  · simp only [lent, hl']; rfl
  · simp only [back, hl']
theorem at_set {l : List Slot} {v : Nat} {x y : Slot} (h : l[v]? = some x) : (l.set v y)[v]? = some y := by
  obtain ⟨h1, _⟩ := List.getElem?_eq_some_iff.mp h
  rw [List.getElem?_set]
  simp [h1]
/-- a number behind a draw -/
theorem add_run {cf : Nat → List Slot → Co} {e : Ex} {s s' : S} {a m : Int} (he : ev cf e s = .ok (.v (.int m)) s') : ev cf (.bin .add (.cst (.int a)) e) s = .ok (.v (.int (a + m))) s' := by
  show eBin .add (ev cf (.cst (.int a))) (ev cf e) s = _
  unfold eBin
  show (ev cf e s).bind _ = _
  rw [he]; rfl
theorem bin_go {cf : Nat → List Slot → Co} {o : BOp} {a b : Ex} {s s1 s2 : S} {ra rb r : Rv} {d e : D} (h1 : ev cf a s = .ok ra s1) (h2 : ev cf b s1 = .ok rb s2) (h3 : cnt s2 ra = some d) (h4 : cnt s2 rb = some e) (h5 : binR o d e = some r) : ev cf (.bin o a b) s = .ok r s2 := by
  show eBin o (ev cf a) (ev cf b) s = _
  unfold eBin
  rw [h1, bind_ok, h2, bind_ok, h3, h4]
  show ofO (binR o d e) s2 = _
  rw [h5]; rfl
theorem idx_go {cf : Nat → List Slot → Co} {a b : Ex} {s s1 s2 : S} {ra rb : Rv} {d e r : D} (h1 : ev cf a s = .ok ra s1) (h2 : ev cf b s1 = .ok rb s2) (h3 : cnt s2 ra = some d) (h4 : cnt s2 rb = some e) (h5 : idxR d e = some r) : ev cf (.idx a b) s = .ok (.v r) s2 := by
  show eIdx (ev cf a) (ev cf b) s = _
  unfold eIdx
  rw [h1, bind_ok, h2, bind_ok, h3, h4]
  show ofO ((idxR d e).map Rv.v) s2 = _
  rw [h5]; rfl
theorem evF_v {cf : Nat → List Slot → Co} {e : Ex} {es : Exs} {s s1 s2 : S} {d : D} {ds : List D} (h1 : ev cf e s = .ok (.v d) s1) (h2 : evF cf es s1 = .ok ds s2) : evF cf (.cons e es) s = .ok (d :: ds) s2 := by
  show ((ev cf e s).bind frz).bind (fun x s1 => (evF cf es s1).bind fun xs s2 => .ok (x :: xs) s2) = _
  rw [h1, bind_ok]
  show (evF cf es s1).bind _ = _
  rw [h2, bind_ok]
theorem lst_go {cf : Nat → List Slot → Co} {es : Exs} {s s1 : S} {ds : List D} (h1 : evF cf es s = .ok ds s1) (h2 : ds.length ≤ 1000) : ev cf (.lst es) s = .ok (.o ds) s1 := by
  show eLst (evF cf es) s = _
  unfold eLst
  rw [h1, bind_ok, if_pos (by show ds.length ≤ 16777216; omega)]
theorem brd_run {cf : Nat → List Slot → Co} {dr v : Nat} (hd : Draws cf dr) {l : List Slot} {g : Int × Int} (hl : l[v]? = some (.ow (bg g))) (a b c w : Nat) (hc : 0 < c) (hc2 : c ≤ 1000) : ∃ (n : Nat) (g' : Int × Int), (n = a ∨ n = b ∨ w ≤ n ∧ n < w + c) ∧
    ev cf (.idx (.lst (.cons (.cst (.int (a : Int))) (.cons (.cst (.int (b : Int))) (.cons (.bin .add (.cst (.int (w : Int))) (.call dr (.cons (.var v) (.cons (.cst (.int (c : Int))) .nil)))) (.cons (.bin .add (.cst (.int (w : Int))) (.call dr (.cons (.var v) (.cons (.cst (.int (c : Int))) .nil)))) .nil))))) (.call dr (.cons (.var v) (.cons (.cst (.int 4)) .nil)))) ⟨l⟩
    = .ok (.v (.int (n : Int))) ⟨l.set v (.ow (bg g'))⟩ := by
  have d1 := add_run (a := (w : Int)) (draw_ow hd (e := .cst (.int (c : Int))) hl (l' := l) rfl hl (by omega) (by omega))
  have d2 := add_run (a := (w : Int)) (draw_ow hd (e := .cst (.int (c : Int))) (at_set (y := .ow (bg (drawS g (c : Int)))) hl) rfl (at_set hl) (by omega) (by omega))
  have d3 := draw_ow hd (e := .cst (.int 4)) (at_set (y := .ow (bg (drawS (drawS g (c : Int)) (c : Int)))) (at_set (y := .ow (bg (drawS g (c : Int)))) hl)) rfl (at_set (at_set hl)) (by omega) (by omega)
  have b1 := drawV_lt g (m := (c : Int)) (by omega)
  have b2 := drawV_lt (drawS g (c : Int)) (m := (c : Int)) (by omega)
  have b3 := drawV_lt (drawS (drawS g (c : Int)) (c : Int)) (m := 4) (by omega)
  obtain ⟨m1, h1⟩ := Int.eq_ofNat_of_zero_le b1.1
  obtain ⟨m2, h2⟩ := Int.eq_ofNat_of_zero_le b2.1
  rw [List.set_set] at d2 d3
  rw [List.set_set] at d3
  have c3 : drawV (drawS (drawS g (c : Int)) (c : Int)) 4 = 0 ∨ drawV (drawS (drawS g (c : Int)) (c : Int)) 4 = 1 ∨ drawV (drawS (drawS g (c : Int)) (c : Int)) 4 = 2 ∨ drawV (drawS (drawS g (c : Int)) (c : Int)) 4 = 3 := by omega
  have L := lst_go (evF_v (rfl : ev cf (.cst (.int (a : Int))) ⟨l⟩ = .ok (.v (.int (a : Int))) ⟨l⟩) (evF_v (rfl : ev cf (.cst (.int (b : Int))) ⟨l⟩ = .ok (.v (.int (b : Int))) ⟨l⟩) (evF_v d1 (evF_v d2 (rfl : evF cf .nil _ = .ok [] _))))) (show 4 ≤ 1000 by decide)
  rcases c3 with c3 | c3 | c3 | c3
  · exact ⟨a, _, .inl rfl, idx_go L d3 rfl rfl (by rw [c3]; rfl)⟩
  · exact ⟨b, _, .inr (.inl rfl), idx_go L d3 rfl rfl (by rw [c3]; rfl)⟩
  · exact ⟨w + m1, _, .inr (.inr (by omega)), idx_go L d3 rfl rfl (by rw [c3, h1]; rfl)⟩
  · exact ⟨w + m2, _, .inr (.inr (by omega)), idx_go L d3 rfl rfl (by rw [c3, h2]; rfl)⟩
/-- a law's own loop over its cells -/
theorem many_go (cf : Nat → List Slot → Co) (lo cap : Nat) (ns : List Int) (l : List Slot) : evs cf (.cons (.blt .max2 (.cons (.cst (.int (lo : Int))) (.cons (.blt .min2 (.cons (.cst (.int (cap : Int))) (.cons (.blt .len (.cons (.var 0) .nil)) .nil))) .nil))) .nil) ⟨.sh (.scr ns) :: l⟩
    = .ok [.v (.int ((max lo (min cap ns.length) : Nat) : Int))] ⟨.sh (.scr ns) :: l⟩ := by
  by_cases h1 : (ns.length : Int) < (cap : Int)
  · by_cases h2 : (lo : Int) < (ns.length : Int)
    · rw [show max lo (min cap ns.length) = ns.length from by omega]; simp [op2_some, ev_cst, ev_var, ev_bin, ev_neg, ev_not, ev_and, ev_or, ev_cmp, ev_chn, ev_isN, ev_notN, ev_ife, ev_tup, ev_lst, ev_idx, ev_slc, ev_call, ev_blt, ev_met, ev_joi, ev_lc, ev_isi, tst_eq, evI_eq, evs_nil, evs_cons, evF_nil, evF_cons, evo_no, evo_so, xs_asg, xs_asgT, xs_par, xs_sub, xs_exp, xs_ret, xs_retN, xs_if, xs_for, xs_whl, xs_brk, xs_rse, xs_cnt, xs_pas, xss_nil, xss_cons, itK_seq, itK_rng1, itK_rng2, itK_rng3, itK_enm, itK_zip, bind_ok, bind_bad, of_ok, fbind_nx, fbind_rt, fbind_bk, fbind_ct, ofO_some, ofS_some, cnt_v, cnt_o, cnt_b, cntS_eq, frz_v, frz_o, frz_b, fr_no, fr_sh, fr_ow, fr_le, fr_lf, fr_lk, putS_fr, mutS_eq, SZ, idxV, slcV, metV, mokV, mok, inS, isiV, joiV, idxR, ixN_nat, ixN_num, binR, addR, mulR, intR, cmpR, D.tr, CM, opd, slcR, bltR, metR, hand, lent, dist, back, cnts, asgT, asgTs, D.eqv, eqvL, D.pl, plL, D.dep, depL, lockO, itemsOf, unlock, freeS, wipeS, restS, D.flat, h1, h2]
    · rw [show max lo (min cap ns.length) = lo from by omega]; simp [op2_some, ev_cst, ev_var, ev_bin, ev_neg, ev_not, ev_and, ev_or, ev_cmp, ev_chn, ev_isN, ev_notN, ev_ife, ev_tup, ev_lst, ev_idx, ev_slc, ev_call, ev_blt, ev_met, ev_joi, ev_lc, ev_isi, tst_eq, evI_eq, evs_nil, evs_cons, evF_nil, evF_cons, evo_no, evo_so, xs_asg, xs_asgT, xs_par, xs_sub, xs_exp, xs_ret, xs_retN, xs_if, xs_for, xs_whl, xs_brk, xs_rse, xs_cnt, xs_pas, xss_nil, xss_cons, itK_seq, itK_rng1, itK_rng2, itK_rng3, itK_enm, itK_zip, bind_ok, bind_bad, of_ok, fbind_nx, fbind_rt, fbind_bk, fbind_ct, ofO_some, ofS_some, cnt_v, cnt_o, cnt_b, cntS_eq, frz_v, frz_o, frz_b, fr_no, fr_sh, fr_ow, fr_le, fr_lf, fr_lk, putS_fr, mutS_eq, SZ, idxV, slcV, metV, mokV, mok, inS, isiV, joiV, idxR, ixN_nat, ixN_num, binR, addR, mulR, intR, cmpR, D.tr, CM, opd, slcR, bltR, metR, hand, lent, dist, back, cnts, asgT, asgTs, D.eqv, eqvL, D.pl, plL, D.dep, depL, lockO, itemsOf, unlock, freeS, wipeS, restS, D.flat, h1, h2]
  · by_cases h2 : (lo : Int) < (cap : Int)
    · rw [show max lo (min cap ns.length) = cap from by omega]; simp [op2_some, ev_cst, ev_var, ev_bin, ev_neg, ev_not, ev_and, ev_or, ev_cmp, ev_chn, ev_isN, ev_notN, ev_ife, ev_tup, ev_lst, ev_idx, ev_slc, ev_call, ev_blt, ev_met, ev_joi, ev_lc, ev_isi, tst_eq, evI_eq, evs_nil, evs_cons, evF_nil, evF_cons, evo_no, evo_so, xs_asg, xs_asgT, xs_par, xs_sub, xs_exp, xs_ret, xs_retN, xs_if, xs_for, xs_whl, xs_brk, xs_rse, xs_cnt, xs_pas, xss_nil, xss_cons, itK_seq, itK_rng1, itK_rng2, itK_rng3, itK_enm, itK_zip, bind_ok, bind_bad, of_ok, fbind_nx, fbind_rt, fbind_bk, fbind_ct, ofO_some, ofS_some, cnt_v, cnt_o, cnt_b, cntS_eq, frz_v, frz_o, frz_b, fr_no, fr_sh, fr_ow, fr_le, fr_lf, fr_lk, putS_fr, mutS_eq, SZ, idxV, slcV, metV, mokV, mok, inS, isiV, joiV, idxR, ixN_nat, ixN_num, binR, addR, mulR, intR, cmpR, D.tr, CM, opd, slcR, bltR, metR, hand, lent, dist, back, cnts, asgT, asgTs, D.eqv, eqvL, D.pl, plL, D.dep, depL, lockO, itemsOf, unlock, freeS, wipeS, restS, D.flat, h1, h2]
    · rw [show max lo (min cap ns.length) = lo from by omega]; simp [op2_some, ev_cst, ev_var, ev_bin, ev_neg, ev_not, ev_and, ev_or, ev_cmp, ev_chn, ev_isN, ev_notN, ev_ife, ev_tup, ev_lst, ev_idx, ev_slc, ev_call, ev_blt, ev_met, ev_joi, ev_lc, ev_isi, tst_eq, evI_eq, evs_nil, evs_cons, evF_nil, evF_cons, evo_no, evo_so, xs_asg, xs_asgT, xs_par, xs_sub, xs_exp, xs_ret, xs_retN, xs_if, xs_for, xs_whl, xs_brk, xs_rse, xs_cnt, xs_pas, xss_nil, xss_cons, itK_seq, itK_rng1, itK_rng2, itK_rng3, itK_enm, itK_zip, bind_ok, bind_bad, of_ok, fbind_nx, fbind_rt, fbind_bk, fbind_ct, ofO_some, ofS_some, cnt_v, cnt_o, cnt_b, cntS_eq, frz_v, frz_o, frz_b, fr_no, fr_sh, fr_ow, fr_le, fr_lf, fr_lk, putS_fr, mutS_eq, SZ, idxV, slcV, metV, mokV, mok, inS, isiV, joiV, idxR, ixN_nat, ixN_num, binR, addR, mulR, intR, cmpR, D.tr, CM, opd, slcR, bltR, metR, hand, lent, dist, back, cnts, asgT, asgTs, D.eqv, eqvL, D.pl, plL, D.dep, depL, lockO, itemsOf, unlock, freeS, wipeS, restS, D.flat, h1, h2]
theorem law_go {P : List Df} {n L nn lo cap : Nat} {B : Ss} {ns : List Int} (hP : P[L]? = some ⟨1, nn + 2, .cons (.fors (.var 1) .rng1 (.cons (.blt .max2 (.cons (.cst (.int (lo : Int))) (.cons (.blt .min2 (.cons (.cst (.int (cap : Int))) (.cons (.blt .len (.cons (.var 0) .nil)) .nil))) .nil))) .nil) B) (.cons (.ret (.cst (.bl true))) .nil)⟩)
    (hlo : lo ≤ 1000) (hcap : cap ≤ 1000) (J : List Slot → Prop) (hJ : ∀ l, J l → l.length = nn) (h0 : J (List.replicate nn .no))
    (step : ∀ (k : Nat) (l : List Slot), J l → ∃ l', J l' ∧ xss (call P n) B ⟨.sh (.scr ns) :: .sh (.int (k : Int)) :: l⟩ = .nx ⟨.sh (.scr ns) :: .sh (.int (k : Int)) :: l'⟩) : ∃ es, call P (n + 1) L [.sh (.scr ns)] = .ok (.v (.bl true)) es := by
  obtain ⟨s', ⟨x1, l, f1, hl, rfl⟩, hf⟩ := forL_rng (t := .var 1) (lk := []) (n := max lo (min cap ns.length)) (fb := xss (call P n) B) (s := ⟨.sh (.scr ns) :: .no :: List.replicate nn .no⟩)
    (fun k s => ∃ x1 l, fr x1 = true ∧ J l ∧ s = ⟨.sh (.scr ns) :: x1 :: l⟩) ⟨.no, _, rfl, h0, rfl⟩ (fun k s hk ⟨x1, l, f1, hl, e⟩ => by
      subst e
      obtain ⟨l', h1, h2⟩ := step k l hl
      exact ⟨_, _, putS_at (x := x1) rfl f1, .inl h2, _, l', rfl, h1, rfl⟩)
  refine ⟨[.sh (.scr ns)], ?_⟩
  rw [call_df hP]
  refine run_v (s := ⟨.sh (.scr ns) :: x1 :: l⟩) ⟨rfl, by show 1 ≤ nn + 2; omega⟩ ?_ (by show (l.length + 1) + 1 = nn + 2; rw [hJ l hl]) rfl
  exact xss_go (for_go (rng_go (many_go _ lo cap ns _) (by omega)) hf) rfl
/-! runs -/
def runsG (c m : Nat) : List Nat → List Nat
  | [] => [m]
  | x :: xs => if x = c then runsG c (m + 1) xs else m :: runsG x 1 xs
def runsB : Ss := (.cons (.iff (.cmp .ne (.var 4) (.var 2)) (.cons (.exp (.met .append (.var 1) (.cons (.var 3) .nil)))
  (.cons (.asg (.var 2) (.var 4))
  (.cons (.asg (.var 3) (.cst (.int 0)))
  .nil))) .nil)
  (.cons (.asg (.var 3) (.bin .add (.var 3) (.cst (.int 1))))
  .nil))
def runsBody : Ss :=
  (.cons (.asg (.var 1) (.lst .nil))
  (.cons (.asg (.var 2) (.cst (.str [46])))
  (.cons (.asg (.var 3) (.cst (.int 0)))
  (.cons (.fors (.var 4) .seq (.cons (.var 0) .nil) runsB)
  (.cons (.exp (.met .append (.var 1) (.cons (.var 3) .nil)))
  (.cons (.ret (.var 1))
  .nil))))))
theorem runs_step (cf : Nat → List Slot → Co) (A : Slot) (f : List D) (hf : f.length < 16777216) (c x : Nat) (m : Int) : xss cf runsB ⟨[A, .ow f, .sh (ch c), .sh (.int m), .sh (ch x)]⟩
    = .nx (if x = c then ⟨[A, .ow f, .sh (ch c), .sh (.int (m + 1)), .sh (ch x)]⟩ else ⟨[A, .ow (f ++ [.int m]), .sh (ch x), .sh (.int 1), .sh (ch x)]⟩) := by
  unfold runsB
  by_cases h : x = c
  · subst h; simp [op2_some, ev_cst, ev_var, ev_bin, ev_neg, ev_not, ev_and, ev_or, ev_cmp, ev_chn, ev_isN, ev_notN, ev_ife, ev_tup, ev_lst, ev_idx, ev_slc, ev_call, ev_blt, ev_met, ev_joi, ev_lc, ev_isi, tst_eq, evI_eq, evs_nil, evs_cons, evF_nil, evF_cons, evo_no, evo_so, xs_asg, xs_asgT, xs_par, xs_sub, xs_exp, xs_ret, xs_retN, xs_if, xs_for, xs_whl, xs_brk, xs_rse, xs_cnt, xs_pas, xss_nil, xss_cons, itK_seq, itK_rng1, itK_rng2, itK_rng3, itK_enm, itK_zip, bind_ok, bind_bad, of_ok, fbind_nx, fbind_rt, fbind_bk, fbind_ct, ofO_some, ofS_some, cnt_v, cnt_o, cnt_b, cntS_eq, frz_v, frz_o, frz_b, fr_no, fr_sh, fr_ow, fr_le, fr_lf, fr_lk, putS_fr, mutS_eq, SZ, idxV, slcV, metV, mokV, mok, inS, isiV, joiV, idxR, ixN_nat, ixN_num, binR, addR, mulR, intR, cmpR, D.tr, CM, opd, slcR, bltR, metR, hand, lent, dist, back, cnts, asgT, asgTs, D.eqv, eqvL, D.pl, plL, D.dep, depL, lockO, itemsOf, unlock, freeS, wipeS, restS, D.flat]
  · simp [op2_some, ev_cst, ev_var, ev_bin, ev_neg, ev_not, ev_and, ev_or, ev_cmp, ev_chn, ev_isN, ev_notN, ev_ife, ev_tup, ev_lst, ev_idx, ev_slc, ev_call, ev_blt, ev_met, ev_joi, ev_lc, ev_isi, tst_eq, evI_eq, evs_nil, evs_cons, evF_nil, evF_cons, evo_no, evo_so, xs_asg, xs_asgT, xs_par, xs_sub, xs_exp, xs_ret, xs_retN, xs_if, xs_for, xs_whl, xs_brk, xs_rse, xs_cnt, xs_pas, xss_nil, xss_cons, itK_seq, itK_rng1, itK_rng2, itK_rng3, itK_enm, itK_zip, bind_ok, bind_bad, of_ok, fbind_nx, fbind_rt, fbind_bk, fbind_ct, ofO_some, ofS_some, cnt_v, cnt_o, cnt_b, cntS_eq, frz_v, frz_o, frz_b, fr_no, fr_sh, fr_ow, fr_le, fr_lf, fr_lk, putS_fr, mutS_eq, SZ, idxV, slcV, metV, mokV, mok, inS, isiV, joiV, idxR, ixN_nat, ixN_num, binR, addR, mulR, intR, cmpR, D.tr, CM, opd, slcR, bltR, metR, hand, lent, dist, back, cnts, asgT, asgTs, D.eqv, eqvL, D.pl, plL, D.dep, depL, lockO, itemsOf, unlock, freeS, wipeS, restS, D.flat, h, hf]
theorem runs_loop (cf : Nat → List Slot → Co) (A : Slot) : ∀ (row : List Nat) (f : List Nat) (c m : Nat) (y : Slot), fr y = true → f.length + row.length < 16777216 →
    ∃ (f' : List Nat) (c' m' : Nat) (z : Slot), forL (.var 4) [] (xss cf runsB) (row.map ch) ⟨[A, .ow (f.map nt), .sh (ch c), .sh (nt m), y]⟩ = .nx ⟨[A, .ow (f'.map nt), .sh (ch c'), .sh (nt m'), z]⟩ ∧ f' ++ [m'] = f ++ runsG c m row ∧ f'.length ≤ f.length + row.length := by
  intro row
  induction row with
  | nil => intro f c m y _ _; exact ⟨f, c, m, y, rfl, rfl, by omega⟩
  | cons x xs ih =>
    intro f c m y hy hl
    rw [List.length_cons] at hl
    have h1 : asgT (.var 4) (ch x) ⟨[A, .ow (f.map nt), .sh (ch c), .sh (nt m), y]⟩ = some ⟨[A, .ow (f.map nt), .sh (ch c), .sh (nt m), .sh (ch x)]⟩ := putS_at (x := y) rfl hy
    have h2 := runs_step cf A (f.map nt) (by rw [List.length_map]; omega) c x (m : Int)
    by_cases h : x = c
    · obtain ⟨f', c', m', z, q1, q2, q3⟩ := ih f c (m + 1) (.sh (ch x)) rfl (by omega)
      refine ⟨f', c', m', z, ?_, ?_, by rw [List.length_cons]; omega⟩
      · rw [if_pos h] at h2
        rw [List.map_cons]
        unfold forL
        rw [h1]
        dsimp only
        rw [h2]
        exact q1
      · rw [q2]; simp [runsG, h]
    · obtain ⟨f', c', m', z, q1, q2, q3⟩ := ih (f ++ [m]) x 1 (.sh (ch x)) rfl (by simp; omega)
      refine ⟨f', c', m', z, ?_, ?_, by rw [List.length_cons]; simp at q3; omega⟩
      · rw [if_neg h] at h2
        rw [List.map_cons]
        unfold forL
        rw [h1]
        dsimp only
        rw [h2, show f.map nt ++ [.int (m : Int)] = (f ++ [m]).map nt from by rw [List.map_append]; rfl]
        exact q1
      · rw [q2]; simp [runsG, h]
theorem runs_run (cf : Nat → List Slot → Co) (row : List Nat) (hl : row.length < 1000000) : runDf ⟨1, 5, runsBody⟩ cf [.sh (.str row)] = .ok (.o ((runsG 46 0 row).map nt)) [.sh (.str row)] := by
  obtain ⟨f', c', m', z, q1, q2, q3⟩ := runs_loop cf (.sh (.str row)) row [] 46 0 .no rfl (by simp; omega)
  rw [List.nil_append] at q2
  rw [← q2]
  have hf : f'.length < 16777216 := by simp at q3; omega
  refine run_o (s := ⟨[.sh (.str row), .no, .sh (ch c'), .sh (nt m'), z]⟩) ⟨rfl, (show 1 ≤ 5 from by decide)⟩ (xss_go (s1 := ⟨[.sh (.str row), .ow [], .no, .no, .no]⟩) rfl (xss_go (s1 := ⟨[.sh (.str row), .ow [], .sh (ch 46), .no, .no]⟩) rfl (xss_go (s1 := ⟨[.sh (.str row), .ow [], .sh (ch 46), .sh (.int 0), .no]⟩) rfl (xss_go (for_in (items := row.map ch) rfl q1) ?_)))) rfl rfl
  simp [op2_some, ev_cst, ev_var, ev_bin, ev_neg, ev_not, ev_and, ev_or, ev_cmp, ev_chn, ev_isN, ev_notN, ev_ife, ev_tup, ev_lst, ev_idx, ev_slc, ev_call, ev_blt, ev_met, ev_joi, ev_lc, ev_isi, tst_eq, evI_eq, evs_nil, evs_cons, evF_nil, evF_cons, evo_no, evo_so, xs_asg, xs_asgT, xs_par, xs_sub, xs_exp, xs_ret, xs_retN, xs_if, xs_for, xs_whl, xs_brk, xs_rse, xs_cnt, xs_pas, xss_nil, xss_cons, itK_seq, itK_rng1, itK_rng2, itK_rng3, itK_enm, itK_zip, bind_ok, bind_bad, of_ok, fbind_nx, fbind_rt, fbind_bk, fbind_ct, ofO_some, ofS_some, cnt_v, cnt_o, cnt_b, cntS_eq, frz_v, frz_o, frz_b, fr_no, fr_sh, fr_ow, fr_le, fr_lf, fr_lk, putS_fr, mutS_eq, SZ, idxV, slcV, metV, mokV, mok, inS, isiV, joiV, idxR, ixN_nat, ixN_num, binR, addR, mulR, intR, cmpR, D.tr, CM, opd, slcR, bltR, metR, hand, lent, dist, back, cnts, asgT, asgTs, D.eqv, eqvL, D.pl, plL, D.dep, depL, lockO, itemsOf, unlock, freeS, wipeS, restS, D.flat, hf]
/-! what runs are -/
def flip1 (c : Nat) : Nat := if c = 46 then 35 else 46
def expand (c : Nat) : List Nat → List Nat
  | [] => []
  | r :: rs => List.replicate r c ++ expand (flip1 c) rs
theorem expand_runs : ∀ (row : List Nat) (c m : Nat), (c = 46 ∨ c = 35) → Sg row → expand c (runsG c m row) = List.replicate m c ++ row := by
  intro row
  induction row with
  | nil => intro c m _ _; simp [runsG, expand]
  | cons x xs ih =>
    intro c m hc hS
    have hx := hS x (List.mem_cons_self ..)
    have hS' : Sg xs := fun d hd => hS d (List.mem_cons_of_mem _ hd)
    by_cases h : x = c
    · subst h
      unfold runsG
      rw [if_pos rfl, ih x (m + 1) hx hS', List.replicate_succ']
      simp
    · have hf : flip1 c = x := by unfold flip1; rcases hc with rfl | rfl <;> rcases hx with rfl | rfl <;> simp_all
      unfold runsG
      rw [if_neg h]
      show List.replicate m c ++ expand (flip1 c) (runsG x 1 xs) = _
      rw [hf, ih x 1 hx hS']
      rfl
theorem runs_pos : ∀ (row : List Nat) (c m : Nat), 0 < m → ∀ r ∈ runsG c m row, 0 < r := by
  intro row
  induction row with
  | nil => intro c m hm r hr; rw [List.mem_singleton.mp hr]; exact hm
  | cons x xs ih =>
    intro c m hm r hr
    unfold runsG at hr
    split at hr
    · exact ih c (m + 1) (by omega) r hr
    · rcases List.mem_cons.mp hr with rfl | hr
      · exact hm
      · exact ih x 1 (by omega) r hr
theorem runs_tail (row : List Nat) (c m : Nat) : ∀ r ∈ (runsG c m row).drop 1, 0 < r := by
  induction row generalizing m with
  | nil => intro r hr; cases hr
  | cons x xs ih =>
    intro r hr
    unfold runsG at hr
    split at hr
    · exact ih (m + 1) r hr
    · exact runs_pos xs x 1 (by omega) r hr
theorem runs_le (row : List Nat) (c m : Nat) : ∀ r ∈ runsG c m row, r ≤ m + row.length := by
  induction row generalizing c m with
  | nil => intro r hr; rw [List.mem_singleton.mp hr]; simp
  | cons x xs ih =>
    intro r hr
    unfold runsG at hr
    rw [List.length_cons]
    split at hr
    · have := ih c (m + 1) r hr; omega
    · rcases List.mem_cons.mp hr with rfl | hr
      · omega
      · have := ih x 1 r hr; omega
theorem runs_len (row : List Nat) (c m : Nat) : (runsG c m row).length ≤ row.length + 1 ∧ 1 ≤ (runsG c m row).length := by
  induction row generalizing c m with
  | nil => simp [runsG]
  | cons x xs ih =>
    unfold runsG
    split
    · have := ih c (m + 1); simp; omega
    · have := ih x 1; simp; omega
end Z

/-! Z: more helps; fitted rows. -/
namespace Z
theorem cut_both {α : Type} (xs : List α) (p q : Nat) : cut xs (some (p : Int)) (some (q : Int)) = (xs.drop p).take (q - p) := by
  unfold cut
  rw [sx_nat, sx_nat]
  rcases Nat.le_total p xs.length with h | h
  · rw [Nat.min_eq_left h]
    rcases Nat.le_total q xs.length with h2 | h2
    · rw [Nat.min_eq_left h2]
    · rw [Nat.min_eq_right h2, List.take_of_length_le (by simp), List.take_of_length_le (by simp; omega)]
  · rw [Nat.min_eq_right h, List.drop_length, List.drop_of_length_le h]; simp
theorem ixN_add (n a b : Nat) : ixN n ((a : Int) + (b : Int)) = if a + b < n then some (a + b) else none := ixN_nat n (a + b)
theorem rng2_go {cf : Nat → List Slot → Co} {es : Exs} {s s1 : S} {p q : Nat} (h1 : evs cf es s = .ok [.v (nt p), .v (nt q)] s1) (h : p ≤ 1000000) (h2 : q ≤ 1000000) : evI .rng2 (evs cf es) s = .ok ((List.range (q - p)).map fun (k : Nat) => nt (p + k), []) s1 := by
  unfold evI
  have e : inR (p : Int) = true ∧ inR (q : Int) = true := ⟨inR_nat h, inR_nat h2⟩
  have e2 : ((q : Int) - (p : Int)).toNat = q - p := by omega
  have e3 : ∀ k : Nat, (p : Int) + (k : Int) = ((p + k : Nat) : Int) := fun k => rfl
  rw [h1, bind_ok, itK_rng2, e.1, e.2, if_pos (by rfl), e2]; rfl
theorem forL_rng2 {t : Tg} {lk : Lk} {fb : S → Fo} {n p : Nat} {s : S} (I : Nat → S → Prop) (h0 : I 0 s)
    (step : ∀ k s, k < n → I k s → ∃ s1 s2, asgT t (nt (p + k)) s = some s1 ∧ (fb s1 = .nx s2 ∨ fb s1 = .ct s2) ∧ I (k + 1) s2) : ∃ s', I n s' ∧ forL t lk fb ((List.range n).map fun (k : Nat) => nt (p + k)) s = .nx (unlock lk s') := by
  have := forL_all (t := t) (lk := lk) (fb := fb) (items := (List.range n).map fun (k : Nat) => nt (p + k)) I h0 (fun k d s hd hI => by
    rw [List.getElem?_map] at hd
    obtain ⟨j, h1, h2⟩ := Option.map_eq_some_iff.mp hd
    obtain ⟨h3, h4⟩ := List.getElem?_eq_some_iff.mp h1
    rw [List.getElem_range] at h4
    subst h4 h2
    exact step k s (by simpa using h3) hI)
  simpa using this
/-- a part by division -/
theorem div_nat (a b : Nat) : ((a : Int)).fdiv (b : Int) = ((a / b : Nat) : Int) := by rw [Int.fdiv_eq_ediv_of_nonneg _ (by omega)]; rfl
theorem mul_div_nat (a c b : Nat) : ((a : Int) * (c : Int)).fdiv (b : Int) = ((a * c / b : Nat) : Int) := div_nat (a * c) b
theorem mul1_div_nat (a c b : Nat) : (((a : Int) + 1) * (c : Int)).fdiv (b : Int) = (((a + 1) * c / b : Nat) : Int) := div_nat ((a + 1) * c) b
/-! fitted rows -/
def seg (row : List Nat) (b p : Nat) : List Nat := (row.drop (p * row.length / b)).take ((p + 1) * row.length / b - p * row.length / b)
def fitF (row : List Nat) (b : Nat) : List Nat := if row.length ≤ b then row ++ List.replicate (b - row.length) 46 else (List.range b).map fun p => if 35 ∈ seg row b p then 35 else 46
theorem fitF_len (row : List Nat) (b : Nat) : (fitF row b).length = b := by
  unfold fitF
  split
  · simp; omega
  · simp
def fitB : Ss := (.cons (.asg (.var 5) (.slc (.var 0) (.so (.bin .fdiv (.bin .mul (.var 4) (.var 2)) (.var 1))) (.so (.bin .fdiv (.bin .mul (.bin .add (.var 4) (.cst (.int 1))) (.var 2)) (.var 1)))))
  (.cons (.asg (.var 3) (.bin .add (.var 3) (.ife (.cmp .inn (.cst (.str [35])) (.var 5)) (.cst (.str [35])) (.cst (.str [46])))))
  .nil))
def fitBody : Ss :=
  (.cons (.asg (.var 2) (.blt .len (.cons (.var 0) .nil)))
  (.cons (.iff (.cmp .le (.var 2) (.var 1)) (.cons (.ret (.bin .add (.var 0) (.bin .mul (.cst (.str [46])) (.bin .sub (.var 1) (.var 2)))))
  .nil) .nil)
  (.cons (.asg (.var 3) (.cst (.str [])))
  (.cons (.fors (.var 4) .rng1 (.cons (.var 1) .nil) fitB)
  (.cons (.ret (.var 3))
  .nil)))))
theorem fit_step (cf : Nat → List Slot → Co) (row a : List Nat) (b k : Nat) (x5 : Slot) (f5 : fr x5 = true) (hb : 1 ≤ b) (hb2 : b ≤ 1000) (hr : row.length ≤ 1000) (hk : k < b) (ha : a.length ≤ 1000) :
    ∃ y5, fr y5 = true ∧ xss cf fitB ⟨[.sh (.str row), .sh (nt b), .sh (nt row.length), .sh (.str a), .sh (nt k), x5]⟩
      = .nx ⟨[.sh (.str row), .sh (nt b), .sh (nt row.length), .sh (.str (a ++ [if 35 ∈ seg row b k then 35 else 46])), .sh (nt k), y5]⟩ := by
  obtain ⟨p, hp⟩ : ∃ p, p = k * row.length / b := ⟨_, rfl⟩
  obtain ⟨q, hq⟩ : ∃ q, q = (k + 1) * row.length / b := ⟨_, rfl⟩
  have e1 : ((k : Int) * (row.length : Int)).fdiv (b : Int) = (p : Int) := by rw [hp]; exact mul_div_nat ..
  have e2 : (((k : Int) + 1) * (row.length : Int)).fdiv (b : Int) = (q : Int) := by rw [hq]; exact mul1_div_nat ..
  have c := cut_both row p q
  have z1 : row.length ≤ 16777216 := by omega
  have z2 : b < 1073741824 := by omega
  have z3 : ¬ b = 0 := by omega
  have z4 : a.length < 16777216 := by omega
  have z5 : a.length + 1 ≤ 16777216 := by omega
  have z6 : row.length < 18446744073709551616 := by omega
  unfold seg
  rw [← hp, ← hq, ← c]
  clear hp hq c
  refine ⟨.sh (.str (cut row (some (p : Int)) (some (q : Int)))), rfl, ?_⟩
  unfold fitB
  refine xss_go (s1 := ⟨[.sh (.str row), .sh (nt b), .sh (nt row.length), .sh (.str a), .sh (nt k), .sh (.str (cut row (some (p : Int)) (some (q : Int))))]⟩) ?_ ?_
  · have z7 : row.length ≤ 16777216 := by omega
    simp [op2_some, ev_cst, ev_var, ev_bin, ev_neg, ev_not, ev_and, ev_or, ev_cmp, ev_chn, ev_isN, ev_notN, ev_ife, ev_tup, ev_lst, ev_idx, ev_slc, ev_call, ev_blt, ev_met, ev_joi, ev_lc, ev_isi, tst_eq, evI_eq, evs_nil, evs_cons, evF_nil, evF_cons, evo_no, evo_so, xs_asg, xs_asgT, xs_par, xs_sub, xs_exp, xs_ret, xs_retN, xs_if, xs_for, xs_whl, xs_brk, xs_rse, xs_cnt, xs_pas, xss_nil, xss_cons, itK_seq, itK_rng1, itK_rng2, itK_rng3, itK_enm, itK_zip, bind_ok, bind_bad, of_ok, fbind_nx, fbind_rt, fbind_bk, fbind_ct, ofO_some, ofS_some, cnt_v, cnt_o, cnt_b, cntS_eq, frz_v, frz_o, frz_b, fr_no, fr_sh, fr_ow, fr_le, fr_lf, fr_lk, putS_fr, mutS_eq, SZ, idxV, slcV, metV, mokV, mok, inS, isiV, joiV, idxR, ixN_nat, ixN_num, binR, addR, mulR, intR, cmpR, D.tr, CM, opd, slcR, bltR, metR, hand, lent, dist, back, cnts, asgT, asgTs, D.eqv, eqvL, D.pl, plL, D.dep, depL, lockO, itemsOf, unlock, freeS, wipeS, restS, D.flat, e1, e2, z1, z2, z3, z6, f5]
  · generalize cut row (some (p : Int)) (some (q : Int)) = w
    by_cases h : 35 ∈ w
    · simp [op2_some, ev_cst, ev_var, ev_bin, ev_neg, ev_not, ev_and, ev_or, ev_cmp, ev_chn, ev_isN, ev_notN, ev_ife, ev_tup, ev_lst, ev_idx, ev_slc, ev_call, ev_blt, ev_met, ev_joi, ev_lc, ev_isi, tst_eq, evI_eq, evs_nil, evs_cons, evF_nil, evF_cons, evo_no, evo_so, xs_asg, xs_asgT, xs_par, xs_sub, xs_exp, xs_ret, xs_retN, xs_if, xs_for, xs_whl, xs_brk, xs_rse, xs_cnt, xs_pas, xss_nil, xss_cons, itK_seq, itK_rng1, itK_rng2, itK_rng3, itK_enm, itK_zip, bind_ok, bind_bad, of_ok, fbind_nx, fbind_rt, fbind_bk, fbind_ct, ofO_some, ofS_some, cnt_v, cnt_o, cnt_b, cntS_eq, frz_v, frz_o, frz_b, fr_no, fr_sh, fr_ow, fr_le, fr_lf, fr_lk, putS_fr, mutS_eq, SZ, idxV, slcV, metV, mokV, mok, inS, isiV, joiV, idxR, ixN_nat, ixN_num, binR, addR, mulR, intR, cmpR, D.tr, CM, opd, slcR, bltR, metR, hand, lent, dist, back, cnts, asgT, asgTs, D.eqv, eqvL, D.pl, plL, D.dep, depL, lockO, itemsOf, unlock, freeS, wipeS, restS, D.flat, h, z4, z5]
    · simp [op2_some, ev_cst, ev_var, ev_bin, ev_neg, ev_not, ev_and, ev_or, ev_cmp, ev_chn, ev_isN, ev_notN, ev_ife, ev_tup, ev_lst, ev_idx, ev_slc, ev_call, ev_blt, ev_met, ev_joi, ev_lc, ev_isi, tst_eq, evI_eq, evs_nil, evs_cons, evF_nil, evF_cons, evo_no, evo_so, xs_asg, xs_asgT, xs_par, xs_sub, xs_exp, xs_ret, xs_retN, xs_if, xs_for, xs_whl, xs_brk, xs_rse, xs_cnt, xs_pas, xss_nil, xss_cons, itK_seq, itK_rng1, itK_rng2, itK_rng3, itK_enm, itK_zip, bind_ok, bind_bad, of_ok, fbind_nx, fbind_rt, fbind_bk, fbind_ct, ofO_some, ofS_some, cnt_v, cnt_o, cnt_b, cntS_eq, frz_v, frz_o, frz_b, fr_no, fr_sh, fr_ow, fr_le, fr_lf, fr_lk, putS_fr, mutS_eq, SZ, idxV, slcV, metV, mokV, mok, inS, isiV, joiV, idxR, ixN_nat, ixN_num, binR, addR, mulR, intR, cmpR, D.tr, CM, opd, slcR, bltR, metR, hand, lent, dist, back, cnts, asgT, asgTs, D.eqv, eqvL, D.pl, plL, D.dep, depL, lockO, itemsOf, unlock, freeS, wipeS, restS, D.flat, h, z4, z5]
theorem take_succ_map {α : Type} (f : Nat → α) (n k : Nat) (hk : k < n) : (((List.range n).map f).take (k + 1)) = ((List.range n).map f).take k ++ [f k] := by
  rw [List.take_add_one, List.getElem?_map, List.getElem?_range hk]; rfl
theorem fit_run (cf : Nat → List Slot → Co) (row : List Nat) (b : Nat) (hb : 1 ≤ b) (hb2 : b ≤ 1000) (hr : row.length ≤ 1000) : runDf ⟨2, 6, fitBody⟩ cf [.sh (.str row), .sh (nt b)] = .ok (.v (.str (fitF row b))) [.sh (.str row), .sh (nt b)] := by
  have z1 : row.length ≤ 16777216 := by omega
  have st1 : xs cf (.asg (.var 2) (.blt .len (.cons (.var 0) .nil))) ⟨[.sh (.str row), .sh (nt b), .no, .no, .no, .no]⟩ = .nx ⟨[.sh (.str row), .sh (nt b), .sh (nt row.length), .no, .no, .no]⟩ := by simp [op2_some, ev_cst, ev_var, ev_bin, ev_neg, ev_not, ev_and, ev_or, ev_cmp, ev_chn, ev_isN, ev_notN, ev_ife, ev_tup, ev_lst, ev_idx, ev_slc, ev_call, ev_blt, ev_met, ev_joi, ev_lc, ev_isi, tst_eq, evI_eq, evs_nil, evs_cons, evF_nil, evF_cons, evo_no, evo_so, xs_asg, xs_asgT, xs_par, xs_sub, xs_exp, xs_ret, xs_retN, xs_if, xs_for, xs_whl, xs_brk, xs_rse, xs_cnt, xs_pas, xss_nil, xss_cons, itK_seq, itK_rng1, itK_rng2, itK_rng3, itK_enm, itK_zip, bind_ok, bind_bad, of_ok, fbind_nx, fbind_rt, fbind_bk, fbind_ct, ofO_some, ofS_some, cnt_v, cnt_o, cnt_b, cntS_eq, frz_v, frz_o, frz_b, fr_no, fr_sh, fr_ow, fr_le, fr_lf, fr_lk, putS_fr, mutS_eq, SZ, idxV, slcV, metV, mokV, mok, inS, isiV, joiV, idxR, ixN_nat, ixN_num, binR, addR, mulR, intR, cmpR, D.tr, CM, opd, slcR, bltR, metR, hand, lent, dist, back, cnts, asgT, asgTs, D.eqv, eqvL, D.pl, plL, D.dep, depL, lockO, itemsOf, unlock, freeS, wipeS, restS, D.flat, z1]
  by_cases h : row.length ≤ b
  · obtain ⟨d, hd⟩ : ∃ d : Nat, d = b - row.length := ⟨_, rfl⟩
    have e : (b : Int) - (row.length : Int) = (d : Int) := by omega
    have k1 : okI (d : Int) = true := okI_nat (by omega)
    have z2 : d ≤ 16777216 := by omega
    have z3 : row.length + d ≤ 16777216 := by omega
    have hF : fitF row b = row ++ List.replicate d 46 := by unfold fitF; rw [if_pos h, hd]
    rw [hF]
    refine run_v (s := ⟨[.sh (.str row), .sh (nt b), .sh (nt row.length), .no, .no, .no]⟩) ⟨rfl, (show 2 ≤ 6 from by decide)⟩ (xss_go st1 ?_) rfl rfl
    simp [op2_some, ev_cst, ev_var, ev_bin, ev_neg, ev_not, ev_and, ev_or, ev_cmp, ev_chn, ev_isN, ev_notN, ev_ife, ev_tup, ev_lst, ev_idx, ev_slc, ev_call, ev_blt, ev_met, ev_joi, ev_lc, ev_isi, tst_eq, evI_eq, evs_nil, evs_cons, evF_nil, evF_cons, evo_no, evo_so, xs_asg, xs_asgT, xs_par, xs_sub, xs_exp, xs_ret, xs_retN, xs_if, xs_for, xs_whl, xs_brk, xs_rse, xs_cnt, xs_pas, xss_nil, xss_cons, itK_seq, itK_rng1, itK_rng2, itK_rng3, itK_enm, itK_zip, bind_ok, bind_bad, of_ok, fbind_nx, fbind_rt, fbind_bk, fbind_ct, ofO_some, ofS_some, cnt_v, cnt_o, cnt_b, cntS_eq, frz_v, frz_o, frz_b, fr_no, fr_sh, fr_ow, fr_le, fr_lf, fr_lk, putS_fr, mutS_eq, SZ, idxV, slcV, metV, mokV, mok, inS, isiV, joiV, idxR, ixN_nat, ixN_num, binR, addR, mulR, intR, cmpR, D.tr, CM, opd, slcR, bltR, metR, hand, lent, dist, back, cnts, asgT, asgTs, D.eqv, eqvL, D.pl, plL, D.dep, depL, lockO, itemsOf, unlock, freeS, wipeS, restS, D.flat, h, e, k1, z2, z3, rep_one]
  · have hF : fitF row b = (List.range b).map fun p => if 35 ∈ seg row b p then 35 else 46 := by unfold fitF; rw [if_neg h]
    obtain ⟨s', ⟨x4, x5, f4, f5, rfl⟩, hl⟩ := forL_rng (t := .var 4) (lk := []) (n := b) (fb := xss cf fitB) (s := ⟨[.sh (.str row), .sh (nt b), .sh (nt row.length), .sh (.str []), .no, .no]⟩)
      (fun k s => ∃ x4 x5, fr x4 = true ∧ fr x5 = true ∧ s = ⟨[.sh (.str row), .sh (nt b), .sh (nt row.length), .sh (.str ((fitF row b).take k)), x4, x5]⟩) ⟨.no, .no, rfl, rfl, rfl⟩ (fun k s hk ⟨x4, x5, f4, f5, e⟩ => by
        subst e
        obtain ⟨y5, g5, q⟩ := fit_step cf row ((fitF row b).take k) b k x5 f5 hb hb2 hr hk (by rw [List.length_take]; omega)
        refine ⟨_, _, putS_at (x := x4) rfl f4, .inl q, .sh (nt k), y5, rfl, g5, ?_⟩
        rw [hF, take_succ_map _ b k hk])
    rw [List.take_of_length_le (by rw [fitF_len]; exact Nat.le_refl _)] at hl
    refine run_v (s := ⟨[.sh (.str row), .sh (nt b), .sh (nt row.length), .sh (.str (fitF row b)), x4, x5]⟩) ⟨rfl, (show 2 ≤ 6 from by decide)⟩ (xss_go st1 (xss_go (if_f (s1 := ⟨[.sh (.str row), .sh (nt b), .sh (nt row.length), .no, .no, .no]⟩) ?_ rfl) (xss_go (s1 := ⟨[.sh (.str row), .sh (nt b), .sh (nt row.length), .sh (.str []), .no, .no]⟩) rfl (xss_go (for_go (rng_go rfl (by omega)) hl) rfl)))) rfl rfl
    simp [op2_some, ev_cst, ev_var, ev_bin, ev_neg, ev_not, ev_and, ev_or, ev_cmp, ev_chn, ev_isN, ev_notN, ev_ife, ev_tup, ev_lst, ev_idx, ev_slc, ev_call, ev_blt, ev_met, ev_joi, ev_lc, ev_isi, tst_eq, evI_eq, evs_nil, evs_cons, evF_nil, evF_cons, evo_no, evo_so, xs_asg, xs_asgT, xs_par, xs_sub, xs_exp, xs_ret, xs_retN, xs_if, xs_for, xs_whl, xs_brk, xs_rse, xs_cnt, xs_pas, xss_nil, xss_cons, itK_seq, itK_rng1, itK_rng2, itK_rng3, itK_enm, itK_zip, bind_ok, bind_bad, of_ok, fbind_nx, fbind_rt, fbind_bk, fbind_ct, ofO_some, ofS_some, cnt_v, cnt_o, cnt_b, cntS_eq, frz_v, frz_o, frz_b, fr_no, fr_sh, fr_ow, fr_le, fr_lf, fr_lk, putS_fr, mutS_eq, SZ, idxV, slcV, metV, mokV, mok, inS, isiV, joiV, idxR, ixN_nat, ixN_num, binR, addR, mulR, intR, cmpR, D.tr, CM, opd, slcR, bltR, metR, hand, lent, dist, back, cnts, asgT, asgTs, D.eqv, eqvL, D.pl, plL, D.dep, depL, lockO, itemsOf, unlock, freeS, wipeS, restS, D.flat, h]
/-! the law's own -/
def oldB : Ss := (.cons (.asg (.var 4) (.or (.var 4) (.cmp .eq (.idx (.var 0) (.var 6)) (.cst (.str [35])))))
  .nil)
def fittedB : Ss := (.cons (.asg (.var 4) (.cst (.bl false)))
  (.cons (.iff (.cmp .le (.blt .len (.cons (.var 0) .nil)) (.var 1)) (.cons (.asg (.var 4) (.and (.cmp .lt (.var 3) (.blt .len (.cons (.var 0) .nil))) (.cmp .eq (.idx (.var 0) (.var 3)) (.cst (.str [35])))))
  .nil) (.cons (.asg (.var 5) (.bin .fdiv (.bin .mul (.var 3) (.blt .len (.cons (.var 0) .nil))) (.var 1)))
  (.cons (.fors (.var 6) .rng2 (.cons (.var 5) (.cons (.bin .fdiv (.bin .mul (.bin .add (.var 3) (.cst (.int 1))) (.blt .len (.cons (.var 0) .nil))) (.var 1)) .nil)) oldB)
  .nil)))
  (.cons (.asg (.var 2) (.bin .add (.var 2) (.idx (.cst (.str [46, 35])) (.blt .int (.cons (.var 4) .nil)))))
  .nil)))
def fittedBody : Ss :=
  (.cons (.asg (.var 2) (.cst (.str [])))
  (.cons (.fors (.var 3) .rng1 (.cons (.var 1) .nil) fittedB)
  (.cons (.ret (.var 2))
  .nil)))
theorem old_step (cf : Nat → List Slot → Co) (A1 A2 A3 A5 : Slot) (row : List Nat) (hr : row.length ≤ 1000) (i : Nat) (hi : i < row.length) (t : Bool) : xss cf oldB ⟨[.sh (.str row), A1, A2, A3, .sh (.bl t), A5, .sh (nt i)]⟩ = .nx ⟨[.sh (.str row), A1, A2, A3, .sh (.bl (t || row[i] == 35)), A5, .sh (nt i)]⟩ := by
  have z1 : row.length ≤ 16777216 := by omega
  generalize hc : row[i] = c
  cases t
  · simp [oldB, op2_some, ev_cst, ev_var, ev_bin, ev_neg, ev_not, ev_and, ev_or, ev_cmp, ev_chn, ev_isN, ev_notN, ev_ife, ev_tup, ev_lst, ev_idx, ev_slc, ev_call, ev_blt, ev_met, ev_joi, ev_lc, ev_isi, tst_eq, evI_eq, evs_nil, evs_cons, evF_nil, evF_cons, evo_no, evo_so, xs_asg, xs_asgT, xs_par, xs_sub, xs_exp, xs_ret, xs_retN, xs_if, xs_for, xs_whl, xs_brk, xs_rse, xs_cnt, xs_pas, xss_nil, xss_cons, itK_seq, itK_rng1, itK_rng2, itK_rng3, itK_enm, itK_zip, bind_ok, bind_bad, of_ok, fbind_nx, fbind_rt, fbind_bk, fbind_ct, ofO_some, ofS_some, cnt_v, cnt_o, cnt_b, cntS_eq, frz_v, frz_o, frz_b, fr_no, fr_sh, fr_ow, fr_le, fr_lf, fr_lk, putS_fr, mutS_eq, SZ, idxV, slcV, metV, mokV, mok, inS, isiV, joiV, idxR, ixN_nat, ixN_num, binR, addR, mulR, intR, cmpR, D.tr, CM, opd, slcR, bltR, metR, hand, lent, dist, back, cnts, asgT, asgTs, D.eqv, eqvL, D.pl, plL, D.dep, depL, lockO, itemsOf, unlock, freeS, wipeS, restS, D.flat, z1, hi, hc]
  · simp [oldB, op2_some, ev_cst, ev_var, ev_bin, ev_neg, ev_not, ev_and, ev_or, ev_cmp, ev_chn, ev_isN, ev_notN, ev_ife, ev_tup, ev_lst, ev_idx, ev_slc, ev_call, ev_blt, ev_met, ev_joi, ev_lc, ev_isi, tst_eq, evI_eq, evs_nil, evs_cons, evF_nil, evF_cons, evo_no, evo_so, xs_asg, xs_asgT, xs_par, xs_sub, xs_exp, xs_ret, xs_retN, xs_if, xs_for, xs_whl, xs_brk, xs_rse, xs_cnt, xs_pas, xss_nil, xss_cons, itK_seq, itK_rng1, itK_rng2, itK_rng3, itK_enm, itK_zip, bind_ok, bind_bad, of_ok, fbind_nx, fbind_rt, fbind_bk, fbind_ct, ofO_some, ofS_some, cnt_v, cnt_o, cnt_b, cntS_eq, frz_v, frz_o, frz_b, fr_no, fr_sh, fr_ow, fr_le, fr_lf, fr_lk, putS_fr, mutS_eq, SZ, idxV, slcV, metV, mokV, mok, inS, isiV, joiV, idxR, ixN_nat, ixN_num, binR, addR, mulR, intR, cmpR, D.tr, CM, opd, slcR, bltR, metR, hand, lent, dist, back, cnts, asgT, asgTs, D.eqv, eqvL, D.pl, plL, D.dep, depL, lockO, itemsOf, unlock, freeS, wipeS, restS, D.flat, z1, hi, hc]
theorem fitted_step (cf : Nat → List Slot → Co) (row a : List Nat) (hS : Sg row) (b k : Nat) (x4 x5 x6 : Slot) (f4 : fr x4 = true) (f5 : fr x5 = true) (f6 : fr x6 = true) (hb : 1 ≤ b) (hb2 : b ≤ 1000) (hr : row.length ≤ 1000) (hk : k < b) (ha : a.length ≤ 1000) :
    ∃ y4 y5 y6, fr y4 = true ∧ fr y5 = true ∧ fr y6 = true ∧ xss cf fittedB ⟨[.sh (.str row), .sh (nt b), .sh (.str a), .sh (nt k), x4, x5, x6]⟩
      = .nx ⟨[.sh (.str row), .sh (nt b), .sh (.str (a ++ [(fitF row b).getD k 0])), .sh (nt k), y4, y5, y6]⟩ := by
  have z1 : row.length ≤ 16777216 := by omega
  have z4 : a.length < 16777216 := by omega
  have last : ∀ (t : Bool) (y5 y6 : Slot), xss cf (.cons (.asg (.var 2) (.bin .add (.var 2) (.idx (.cst (.str [46, 35])) (.blt .int (.cons (.var 4) .nil))))) .nil) ⟨[.sh (.str row), .sh (nt b), .sh (.str a), .sh (nt k), .sh (.bl t), y5, y6]⟩ = .nx ⟨[.sh (.str row), .sh (nt b), .sh (.str (a ++ [if t then 35 else 46])), .sh (nt k), .sh (.bl t), y5, y6]⟩ := by
    intro t y5 y6
    have z5 : a.length ≤ 16777215 := by omega
    cases t
    · simp [op2_some, ev_cst, ev_var, ev_bin, ev_neg, ev_not, ev_and, ev_or, ev_cmp, ev_chn, ev_isN, ev_notN, ev_ife, ev_tup, ev_lst, ev_idx, ev_slc, ev_call, ev_blt, ev_met, ev_joi, ev_lc, ev_isi, tst_eq, evI_eq, evs_nil, evs_cons, evF_nil, evF_cons, evo_no, evo_so, xs_asg, xs_asgT, xs_par, xs_sub, xs_exp, xs_ret, xs_retN, xs_if, xs_for, xs_whl, xs_brk, xs_rse, xs_cnt, xs_pas, xss_nil, xss_cons, itK_seq, itK_rng1, itK_rng2, itK_rng3, itK_enm, itK_zip, bind_ok, bind_bad, of_ok, fbind_nx, fbind_rt, fbind_bk, fbind_ct, ofO_some, ofS_some, cnt_v, cnt_o, cnt_b, cntS_eq, frz_v, frz_o, frz_b, fr_no, fr_sh, fr_ow, fr_le, fr_lf, fr_lk, putS_fr, mutS_eq, SZ, idxV, slcV, metV, mokV, mok, inS, isiV, joiV, idxR, ixN_nat, ixN_num, binR, addR, mulR, intR, cmpR, D.tr, CM, opd, slcR, bltR, metR, hand, lent, dist, back, cnts, asgT, asgTs, D.eqv, eqvL, D.pl, plL, D.dep, depL, lockO, itemsOf, unlock, freeS, wipeS, restS, D.flat, z5]
    · simp [op2_some, ev_cst, ev_var, ev_bin, ev_neg, ev_not, ev_and, ev_or, ev_cmp, ev_chn, ev_isN, ev_notN, ev_ife, ev_tup, ev_lst, ev_idx, ev_slc, ev_call, ev_blt, ev_met, ev_joi, ev_lc, ev_isi, tst_eq, evI_eq, evs_nil, evs_cons, evF_nil, evF_cons, evo_no, evo_so, xs_asg, xs_asgT, xs_par, xs_sub, xs_exp, xs_ret, xs_retN, xs_if, xs_for, xs_whl, xs_brk, xs_rse, xs_cnt, xs_pas, xss_nil, xss_cons, itK_seq, itK_rng1, itK_rng2, itK_rng3, itK_enm, itK_zip, bind_ok, bind_bad, of_ok, fbind_nx, fbind_rt, fbind_bk, fbind_ct, ofO_some, ofS_some, cnt_v, cnt_o, cnt_b, cntS_eq, frz_v, frz_o, frz_b, fr_no, fr_sh, fr_ow, fr_le, fr_lf, fr_lk, putS_fr, mutS_eq, SZ, idxV, slcV, metV, mokV, mok, inS, isiV, joiV, idxR, ixN_nat, ixN_num, binR, addR, mulR, intR, cmpR, D.tr, CM, opd, slcR, bltR, metR, hand, lent, dist, back, cnts, asgT, asgTs, D.eqv, eqvL, D.pl, plL, D.dep, depL, lockO, itemsOf, unlock, freeS, wipeS, restS, D.flat, z5]
  have st1 : xs cf (.asg (.var 4) (.cst (.bl false))) ⟨[.sh (.str row), .sh (nt b), .sh (.str a), .sh (nt k), x4, x5, x6]⟩ = .nx ⟨[.sh (.str row), .sh (nt b), .sh (.str a), .sh (nt k), .sh (.bl false), x5, x6]⟩ := by simp [op2_some, ev_cst, ev_var, ev_bin, ev_neg, ev_not, ev_and, ev_or, ev_cmp, ev_chn, ev_isN, ev_notN, ev_ife, ev_tup, ev_lst, ev_idx, ev_slc, ev_call, ev_blt, ev_met, ev_joi, ev_lc, ev_isi, tst_eq, evI_eq, evs_nil, evs_cons, evF_nil, evF_cons, evo_no, evo_so, xs_asg, xs_asgT, xs_par, xs_sub, xs_exp, xs_ret, xs_retN, xs_if, xs_for, xs_whl, xs_brk, xs_rse, xs_cnt, xs_pas, xss_nil, xss_cons, itK_seq, itK_rng1, itK_rng2, itK_rng3, itK_enm, itK_zip, bind_ok, bind_bad, of_ok, fbind_nx, fbind_rt, fbind_bk, fbind_ct, ofO_some, ofS_some, cnt_v, cnt_o, cnt_b, cntS_eq, frz_v, frz_o, frz_b, fr_no, fr_sh, fr_ow, fr_le, fr_lf, fr_lk, putS_fr, mutS_eq, SZ, idxV, slcV, metV, mokV, mok, inS, isiV, joiV, idxR, ixN_nat, ixN_num, binR, addR, mulR, intR, cmpR, D.tr, CM, opd, slcR, bltR, metR, hand, lent, dist, back, cnts, asgT, asgTs, D.eqv, eqvL, D.pl, plL, D.dep, depL, lockO, itemsOf, unlock, freeS, wipeS, restS, D.flat, f4]
  by_cases h : row.length ≤ b
  · have hF : (fitF row b).getD k 0 = if (if k < row.length then row.getD k 0 == 35 else false) then 35 else 46 := by
      unfold fitF
      rw [if_pos h]
      by_cases h2 : k < row.length
      · have := hS row[k] (List.getElem_mem h2)
        rw [if_pos h2, List.getD_eq_getElem?_getD, List.getElem?_append_left h2, List.getElem?_eq_getElem h2, List.getD_eq_getElem?_getD, List.getElem?_eq_getElem h2]
        show row[k] = if (row[k] == 35) = true then 35 else 46
        rcases this with e | e <;> rw [e] <;> rfl
      · rw [if_neg h2, List.getD_eq_getElem?_getD, List.getElem?_append_right (by omega), List.getElem?_replicate, if_pos (by omega)]; rfl
    rw [hF]
    refine ⟨.sh (.bl (if k < row.length then row.getD k 0 == 35 else false)), x5, x6, rfl, f5, f6, xss_go st1 (xss_go (if_t (s1 := ⟨[.sh (.str row), .sh (nt b), .sh (.str a), .sh (nt k), .sh (.bl false), x5, x6]⟩) (by simp [op2_some, ev_cst, ev_var, ev_bin, ev_neg, ev_not, ev_and, ev_or, ev_cmp, ev_chn, ev_isN, ev_notN, ev_ife, ev_tup, ev_lst, ev_idx, ev_slc, ev_call, ev_blt, ev_met, ev_joi, ev_lc, ev_isi, tst_eq, evI_eq, evs_nil, evs_cons, evF_nil, evF_cons, evo_no, evo_so, xs_asg, xs_asgT, xs_par, xs_sub, xs_exp, xs_ret, xs_retN, xs_if, xs_for, xs_whl, xs_brk, xs_rse, xs_cnt, xs_pas, xss_nil, xss_cons, itK_seq, itK_rng1, itK_rng2, itK_rng3, itK_enm, itK_zip, bind_ok, bind_bad, of_ok, fbind_nx, fbind_rt, fbind_bk, fbind_ct, ofO_some, ofS_some, cnt_v, cnt_o, cnt_b, cntS_eq, frz_v, frz_o, frz_b, fr_no, fr_sh, fr_ow, fr_le, fr_lf, fr_lk, putS_fr, mutS_eq, SZ, idxV, slcV, metV, mokV, mok, inS, isiV, joiV, idxR, ixN_nat, ixN_num, binR, addR, mulR, intR, cmpR, D.tr, CM, opd, slcR, bltR, metR, hand, lent, dist, back, cnts, asgT, asgTs, D.eqv, eqvL, D.pl, plL, D.dep, depL, lockO, itemsOf, unlock, freeS, wipeS, restS, D.flat, z1, h]) ?_) (last _ x5 x6))⟩
    by_cases h2 : k < row.length
    · have e : row[k] = row.getD k 0 := by rw [List.getD_eq_getElem?_getD, List.getElem?_eq_getElem h2]; rfl
      generalize row.getD k 0 = c at e
      simp [op2_some, ev_cst, ev_var, ev_bin, ev_neg, ev_not, ev_and, ev_or, ev_cmp, ev_chn, ev_isN, ev_notN, ev_ife, ev_tup, ev_lst, ev_idx, ev_slc, ev_call, ev_blt, ev_met, ev_joi, ev_lc, ev_isi, tst_eq, evI_eq, evs_nil, evs_cons, evF_nil, evF_cons, evo_no, evo_so, xs_asg, xs_asgT, xs_par, xs_sub, xs_exp, xs_ret, xs_retN, xs_if, xs_for, xs_whl, xs_brk, xs_rse, xs_cnt, xs_pas, xss_nil, xss_cons, itK_seq, itK_rng1, itK_rng2, itK_rng3, itK_enm, itK_zip, bind_ok, bind_bad, of_ok, fbind_nx, fbind_rt, fbind_bk, fbind_ct, ofO_some, ofS_some, cnt_v, cnt_o, cnt_b, cntS_eq, frz_v, frz_o, frz_b, fr_no, fr_sh, fr_ow, fr_le, fr_lf, fr_lk, putS_fr, mutS_eq, SZ, idxV, slcV, metV, mokV, mok, inS, isiV, joiV, idxR, ixN_nat, ixN_num, binR, addR, mulR, intR, cmpR, D.tr, CM, opd, slcR, bltR, metR, hand, lent, dist, back, cnts, asgT, asgTs, D.eqv, eqvL, D.pl, plL, D.dep, depL, lockO, itemsOf, unlock, freeS, wipeS, restS, D.flat, z1, h2, e]
    · simp [op2_some, ev_cst, ev_var, ev_bin, ev_neg, ev_not, ev_and, ev_or, ev_cmp, ev_chn, ev_isN, ev_notN, ev_ife, ev_tup, ev_lst, ev_idx, ev_slc, ev_call, ev_blt, ev_met, ev_joi, ev_lc, ev_isi, tst_eq, evI_eq, evs_nil, evs_cons, evF_nil, evF_cons, evo_no, evo_so, xs_asg, xs_asgT, xs_par, xs_sub, xs_exp, xs_ret, xs_retN, xs_if, xs_for, xs_whl, xs_brk, xs_rse, xs_cnt, xs_pas, xss_nil, xss_cons, itK_seq, itK_rng1, itK_rng2, itK_rng3, itK_enm, itK_zip, bind_ok, bind_bad, of_ok, fbind_nx, fbind_rt, fbind_bk, fbind_ct, ofO_some, ofS_some, cnt_v, cnt_o, cnt_b, cntS_eq, frz_v, frz_o, frz_b, fr_no, fr_sh, fr_ow, fr_le, fr_lf, fr_lk, putS_fr, mutS_eq, SZ, idxV, slcV, metV, mokV, mok, inS, isiV, joiV, idxR, ixN_nat, ixN_num, binR, addR, mulR, intR, cmpR, D.tr, CM, opd, slcR, bltR, metR, hand, lent, dist, back, cnts, asgT, asgTs, D.eqv, eqvL, D.pl, plL, D.dep, depL, lockO, itemsOf, unlock, freeS, wipeS, restS, D.flat, z1, h2]
  · have hF : (fitF row b).getD k 0 = if decide (35 ∈ seg row b k) then 35 else 46 := by
      unfold fitF
      rw [if_neg h, List.getD_eq_getElem?_getD, List.getElem?_map, List.getElem?_range hk]
      simp
    obtain ⟨p, hp⟩ : ∃ p, p = k * row.length / b := ⟨_, rfl⟩
    obtain ⟨q, hq⟩ : ∃ q, q = (k + 1) * row.length / b := ⟨_, rfl⟩
    have e1 : ((k : Int) * (row.length : Int)).fdiv (b : Int) = (p : Int) := by rw [hp]; exact mul_div_nat ..
    have e2 : (((k : Int) + 1) * (row.length : Int)).fdiv (b : Int) = (q : Int) := by rw [hq]; exact mul1_div_nat ..
    have hqn : q ≤ row.length := by rw [hq]; exact Nat.div_le_of_le_mul (by rw [Nat.mul_comm b]; rw [Nat.mul_comm (k+1)]; exact Nat.mul_le_mul_left _ (by omega))
    have hpn : p ≤ q := by rw [hp, hq]; exact Nat.div_le_div_right (Nat.mul_le_mul_right _ (by omega))
    have hs : seg row b k = (row.drop p).take (q - p) := by unfold seg; rw [← hp, ← hq]
    have z2 : b < 1073741824 := by omega
    have z3 : ¬ b = 0 := by omega
    have z6 : row.length < 18446744073709551616 := by omega
    rw [hF, hs]
    clear hF hs hp hq
    obtain ⟨s', ⟨y6, g6, rfl⟩, hl⟩ := forL_rng2 (t := .var 6) (lk := []) (n := q - p) (p := p) (fb := xss cf oldB) (s := ⟨[.sh (.str row), .sh (nt b), .sh (.str a), .sh (nt k), .sh (.bl false), .sh (nt p), x6]⟩)
      (fun j s => ∃ y6, fr y6 = true ∧ s = ⟨[.sh (.str row), .sh (nt b), .sh (.str a), .sh (nt k), .sh (.bl (decide (35 ∈ (row.drop p).take j))), .sh (nt p), y6]⟩) ⟨x6, f6, by simp⟩ (fun j s hj ⟨y6, g6, e⟩ => by
        subst e
        refine ⟨_, _, putS_at (x := y6) rfl g6, .inl (old_step cf _ _ _ _ row hr (p + j) (by omega) _), .sh (nt (p + j)), rfl, ?_⟩
        have : (decide (35 ∈ (row.drop p).take j) || row[p + j]'(by omega) == 35) = decide (35 ∈ (row.drop p).take (j + 1)) := by
          rw [List.take_add_one, List.getElem?_drop, List.getElem?_eq_getElem (by omega)]
          simp [Bool.beq_eq_decide_eq, eq_comm]
        rw [this])
    refine ⟨.sh (.bl (decide (35 ∈ (row.drop p).take (q - p)))), .sh (nt p), y6, rfl, rfl, g6, xss_go st1 (xss_go (if_f (s1 := ⟨[.sh (.str row), .sh (nt b), .sh (.str a), .sh (nt k), .sh (.bl false), x5, x6]⟩) (by simp [op2_some, ev_cst, ev_var, ev_bin, ev_neg, ev_not, ev_and, ev_or, ev_cmp, ev_chn, ev_isN, ev_notN, ev_ife, ev_tup, ev_lst, ev_idx, ev_slc, ev_call, ev_blt, ev_met, ev_joi, ev_lc, ev_isi, tst_eq, evI_eq, evs_nil, evs_cons, evF_nil, evF_cons, evo_no, evo_so, xs_asg, xs_asgT, xs_par, xs_sub, xs_exp, xs_ret, xs_retN, xs_if, xs_for, xs_whl, xs_brk, xs_rse, xs_cnt, xs_pas, xss_nil, xss_cons, itK_seq, itK_rng1, itK_rng2, itK_rng3, itK_enm, itK_zip, bind_ok, bind_bad, of_ok, fbind_nx, fbind_rt, fbind_bk, fbind_ct, ofO_some, ofS_some, cnt_v, cnt_o, cnt_b, cntS_eq, frz_v, frz_o, frz_b, fr_no, fr_sh, fr_ow, fr_le, fr_lf, fr_lk, putS_fr, mutS_eq, SZ, idxV, slcV, metV, mokV, mok, inS, isiV, joiV, idxR, ixN_nat, ixN_num, binR, addR, mulR, intR, cmpR, D.tr, CM, opd, slcR, bltR, metR, hand, lent, dist, back, cnts, asgT, asgTs, D.eqv, eqvL, D.pl, plL, D.dep, depL, lockO, itemsOf, unlock, freeS, wipeS, restS, D.flat, z1, h]) ?_) (last _ _ y6))⟩
    refine xss_go (s1 := ⟨[.sh (.str row), .sh (nt b), .sh (.str a), .sh (nt k), .sh (.bl false), .sh (nt p), x6]⟩) (by simp [op2_some, ev_cst, ev_var, ev_bin, ev_neg, ev_not, ev_and, ev_or, ev_cmp, ev_chn, ev_isN, ev_notN, ev_ife, ev_tup, ev_lst, ev_idx, ev_slc, ev_call, ev_blt, ev_met, ev_joi, ev_lc, ev_isi, tst_eq, evI_eq, evs_nil, evs_cons, evF_nil, evF_cons, evo_no, evo_so, xs_asg, xs_asgT, xs_par, xs_sub, xs_exp, xs_ret, xs_retN, xs_if, xs_for, xs_whl, xs_brk, xs_rse, xs_cnt, xs_pas, xss_nil, xss_cons, itK_seq, itK_rng1, itK_rng2, itK_rng3, itK_enm, itK_zip, bind_ok, bind_bad, of_ok, fbind_nx, fbind_rt, fbind_bk, fbind_ct, ofO_some, ofS_some, cnt_v, cnt_o, cnt_b, cntS_eq, frz_v, frz_o, frz_b, fr_no, fr_sh, fr_ow, fr_le, fr_lf, fr_lk, putS_fr, mutS_eq, SZ, idxV, slcV, metV, mokV, mok, inS, isiV, joiV, idxR, ixN_nat, ixN_num, binR, addR, mulR, intR, cmpR, D.tr, CM, opd, slcR, bltR, metR, hand, lent, dist, back, cnts, asgT, asgTs, D.eqv, eqvL, D.pl, plL, D.dep, depL, lockO, itemsOf, unlock, freeS, wipeS, restS, D.flat, z1, e1, z2, z3, z6, f5]) (xss_go (for_go (rng2_go (p := p) (q := q) (s1 := ⟨[.sh (.str row), .sh (nt b), .sh (.str a), .sh (nt k), .sh (.bl false), .sh (nt p), x6]⟩) ?_ (by omega) (by omega)) hl) rfl)
    simp [op2_some, ev_cst, ev_var, ev_bin, ev_neg, ev_not, ev_and, ev_or, ev_cmp, ev_chn, ev_isN, ev_notN, ev_ife, ev_tup, ev_lst, ev_idx, ev_slc, ev_call, ev_blt, ev_met, ev_joi, ev_lc, ev_isi, tst_eq, evI_eq, evs_nil, evs_cons, evF_nil, evF_cons, evo_no, evo_so, xs_asg, xs_asgT, xs_par, xs_sub, xs_exp, xs_ret, xs_retN, xs_if, xs_for, xs_whl, xs_brk, xs_rse, xs_cnt, xs_pas, xss_nil, xss_cons, itK_seq, itK_rng1, itK_rng2, itK_rng3, itK_enm, itK_zip, bind_ok, bind_bad, of_ok, fbind_nx, fbind_rt, fbind_bk, fbind_ct, ofO_some, ofS_some, cnt_v, cnt_o, cnt_b, cntS_eq, frz_v, frz_o, frz_b, fr_no, fr_sh, fr_ow, fr_le, fr_lf, fr_lk, putS_fr, mutS_eq, SZ, idxV, slcV, metV, mokV, mok, inS, isiV, joiV, idxR, ixN_nat, ixN_num, binR, addR, mulR, intR, cmpR, D.tr, CM, opd, slcR, bltR, metR, hand, lent, dist, back, cnts, asgT, asgTs, D.eqv, eqvL, D.pl, plL, D.dep, depL, lockO, itemsOf, unlock, freeS, wipeS, restS, D.flat, z1, e2, z2, z3, z6]
theorem fitted_run (cf : Nat → List Slot → Co) (row : List Nat) (hS : Sg row) (b : Nat) (hb : 1 ≤ b) (hb2 : b ≤ 1000) (hr : row.length ≤ 1000) : runDf ⟨2, 7, fittedBody⟩ cf [.sh (.str row), .sh (nt b)] = .ok (.v (.str (fitF row b))) [.sh (.str row), .sh (nt b)] := by
  obtain ⟨s', ⟨x3, x4, x5, x6, f3, f4, f5, f6, rfl⟩, hl⟩ := forL_rng (t := .var 3) (lk := []) (n := b) (fb := xss cf fittedB) (s := ⟨[.sh (.str row), .sh (nt b), .sh (.str []), .no, .no, .no, .no]⟩)
    (fun k s => ∃ x3 x4 x5 x6, fr x3 = true ∧ fr x4 = true ∧ fr x5 = true ∧ fr x6 = true ∧ s = ⟨[.sh (.str row), .sh (nt b), .sh (.str ((fitF row b).take k)), x3, x4, x5, x6]⟩) ⟨.no, .no, .no, .no, rfl, rfl, rfl, rfl, rfl⟩ (fun k s hk ⟨x3, x4, x5, x6, f3, f4, f5, f6, e⟩ => by
      subst e
      obtain ⟨y4, y5, y6, g4, g5, g6, q⟩ := fitted_step cf row ((fitF row b).take k) hS b k x4 x5 x6 f4 f5 f6 hb hb2 hr hk (by rw [List.length_take]; omega)
      refine ⟨_, _, putS_at (x := x3) rfl f3, .inl q, .sh (nt k), y4, y5, y6, rfl, g4, g5, g6, ?_⟩
      have hl : k < (fitF row b).length := by rw [fitF_len]; exact hk
      rw [List.take_add_one, List.getElem?_eq_getElem hl, List.getD_eq_getElem?_getD, List.getElem?_eq_getElem hl]; rfl)
  rw [List.take_of_length_le (by rw [fitF_len]; exact Nat.le_refl _)] at hl
  exact run_v (s := ⟨[.sh (.str row), .sh (nt b), .sh (.str (fitF row b)), x3, x4, x5, x6]⟩) ⟨rfl, (show 2 ≤ 7 from by decide)⟩ (xss_go (s1 := ⟨[.sh (.str row), .sh (nt b), .sh (.str []), .no, .no, .no, .no]⟩) rfl (xss_go (for_go (rng_go rfl (by omega)) hl) rfl)) rfl rfl
end Z

/-! Z: the bag of four numbers; bits written; any bits. -/
namespace Z
/-! a loop by while -/
theorem whl_inv {fc : S → Ro Bool} {fb : S → Fo} (I : Nat → S → Prop) (Post : S → Prop)
    (step : ∀ m s, I m s → (∃ s', fc s = .ok false s' ∧ Post s') ∨ ∃ s1 s2 m', m' < m ∧ fc s = .ok true s1 ∧ (fb s1 = .nx s2 ∨ fb s1 = .ct s2) ∧ I m' s2) :
    ∀ (n m : Nat) (s : S), I m s → m < n → ∃ s', Post s' ∧ whlL fc fb n s = .nx s' := by
  intro n
  induction n with
  | zero => intro m s _ h; omega
  | succ n ih =>
    intro m s hI hm
    rcases step m s hI with ⟨s', h1, h2⟩ | ⟨s1, s2, m', hm', h1, h2, h3⟩
    · refine ⟨s', h2, ?_⟩
      unfold whlL
      rw [h1]; rfl
    · obtain ⟨s', h4, h5⟩ := ih m' s2 h3 (by omega)
      refine ⟨s', h4, ?_⟩
      unfold whlL
      rw [h1]
      show (match fb s1 with | .nx s2 => whlL fc fb n s2 | .ct s2 => whlL fc fb n s2 | .bk s2 => .nx s2 | r => r) = _
      rcases h2 with h2 | h2 <;> rw [h2] <;> exact h5
theorem whl_go {cf : Nat → List Slot → Co} {c : Ex} {b : Ss} {s : S} (I : Nat → S → Prop) (Post : S → Prop)
    (step : ∀ m s, I m s → (∃ s', tst (ev cf c) s = .ok false s' ∧ Post s') ∨ ∃ s1 s2 m', m' < m ∧ tst (ev cf c) s = .ok true s1 ∧ (xss cf b s1 = .nx s2 ∨ xss cf b s1 = .ct s2) ∧ I m' s2) {m : Nat} (h0 : I m s) (hm : m < 1000000) : ∃ s', Post s' ∧ xs cf (.whl c b) s = .nx s' :=
  whl_inv I Post step fuelW m s h0 hm
/-! the bag -/
structure B4 where
  a : Int
  b : Int
  p : Int
  c : Int
def B4.ok (g : B4) : Prop := 0 ≤ g.a ∧ 0 < g.p ∧ g.p ≤ 2147483647
abbrev bq (g : B4) : List D := [.int g.a, .int g.b, .int g.p, .int g.c]
def takeBody : Ss :=
  (.cons (.iff (.cmp .gt (.idx (.var 0) (.cst (.int 0))) (.cst (.int 0))) (.cons (.asg (.var 2) (.bin .mod (.idx (.var 0) (.cst (.int 0))) (.var 1)))
  (.cons (.sub 0 (.cst (.int 0)) (.bin .fdiv (.idx (.var 0) (.cst (.int 0))) (.var 1)))
  (.cons (.ret (.var 2))
  .nil))) .nil)
  (.cons (.sub 0 (.cst (.int 3)) (.bin .add (.idx (.var 0) (.cst (.int 3))) (.cst (.int 1))))
  (.cons (.sub 0 (.cst (.int 1)) (.bin .mod (.bin .add (.bin .add (.bin .mul (.idx (.var 0) (.cst (.int 1))) (.cst (.int 48271))) (.bin .mul (.cst (.int 7919)) (.idx (.var 0) (.cst (.int 3))))) (.cst (.int 11))) (.idx (.var 0) (.cst (.int 2)))))
  (.cons (.ret (.bin .mod (.bin .mod (.bin .pow (.bin .fdiv (.idx (.var 0) (.cst (.int 1))) (.cst (.int 8))) (.cst (.int 3))) (.cst (.int 2147483629))) (.var 1)))
  .nil))))
def Takes4 (cf : Nat → List Slot → Co) (tk : Nat) : Prop := ∀ (g : B4) (m : Nat), g.ok → 0 < m → m < 1073741824 → ∃ (v : Nat) (g' : B4), v < m ∧ g'.ok ∧ cf tk [.le (bq g), .sh (nt m)] = .ok (.v (nt v)) [.le (bq g'), .sh (nt m)]
theorem take_run (cf : Nat → List Slot → Co) (g : B4) (m : Nat) (hg : g.ok) (h : 0 < m) (h2 : m < 1073741824) : ∃ (v : Nat) (g' : B4), v < m ∧ g'.ok ∧
    runDf ⟨2, 3, takeBody⟩ cf [.le (bq g), .sh (nt m)] = .ok (.v (nt v)) [.le (bq g'), .sh (nt m)] := by
  obtain ⟨a, b, p, c⟩ := g
  obtain ⟨ha, hp, hp2⟩ := hg
  dsimp only at ha hp hp2
  have m0 : ¬ m = 0 := by omega
  have m1 : m < 1073741824 := h2
  have m2 : (0 : Int) < (m : Int) := by omega
  by_cases h0 : 0 < a
  · obtain ⟨v, hv⟩ := Int.eq_ofNat_of_zero_le (Int.emod_nonneg a (show (m : Int) ≠ 0 by omega))
    have hlt := Int.emod_lt_of_pos a m2
    have fm : a.fmod (m : Int) = (v : Int) := by rw [Int.fmod_eq_emod_of_nonneg _ (by omega), hv]
    refine ⟨v, ⟨a.fdiv (m : Int), b, p, c⟩, by omega, ⟨?_, hp, hp2⟩, ?_⟩
    · show 0 ≤ a.fdiv (m : Int)
      rw [Int.fdiv_eq_ediv_of_nonneg _ (by omega)]
      exact Int.ediv_nonneg ha (by omega)
    · simp [runDf, start, endR, takeBody, op2_some, ev_cst, ev_var, ev_bin, ev_neg, ev_not, ev_and, ev_or, ev_cmp, ev_chn, ev_isN, ev_notN, ev_ife, ev_tup, ev_lst, ev_idx, ev_slc, ev_call, ev_blt, ev_met, ev_joi, ev_lc, ev_isi, tst_eq, evI_eq, evs_nil, evs_cons, evF_nil, evF_cons, evo_no, evo_so, xs_asg, xs_asgT, xs_par, xs_sub, xs_exp, xs_ret, xs_retN, xs_if, xs_for, xs_whl, xs_brk, xs_rse, xs_cnt, xs_pas, xss_nil, xss_cons, itK_seq, itK_rng1, itK_rng2, itK_rng3, itK_enm, itK_zip, bind_ok, bind_bad, of_ok, fbind_nx, fbind_rt, fbind_bk, fbind_ct, ofO_some, ofS_some, cnt_v, cnt_o, cnt_b, cntS_eq, frz_v, frz_o, frz_b, fr_no, fr_sh, fr_ow, fr_le, fr_lf, fr_lk, putS_fr, mutS_eq, SZ, idxV, slcV, metV, mokV, mok, inS, isiV, joiV, idxR, ixN_nat, ixN_num, binR, addR, mulR, intR, cmpR, D.tr, CM, opd, slcR, bltR, metR, hand, lent, dist, back, cnts, asgT, asgTs, D.eqv, eqvL, D.pl, plL, D.dep, depL, lockO, itemsOf, unlock, freeS, wipeS, restS, D.flat, subE, h0, m0, m1, fm]
  · have hp0 : ¬ p = 0 := by omega
    obtain ⟨t, ht⟩ : ∃ t : Int, t = (b * 48271 + 7919 * (c + 1) + 11).fmod p := ⟨_, rfl⟩
    have t1 : 0 ≤ t ∧ t < p := by
      rw [ht, Int.fmod_eq_emod_of_nonneg _ (by omega)]
      exact ⟨Int.emod_nonneg _ hp0, Int.emod_lt_of_pos _ hp⟩
    have fd : t.fdiv 8 = t / 8 := Int.fdiv_eq_ediv_of_nonneg _ (by decide)
    have t2 : (t / 8).natAbs < 18446744073709551616 := by omega
    obtain ⟨w, hw⟩ : ∃ w : Int, w = ((t / 8) ^ 3).fmod 2147483629 := ⟨_, rfl⟩
    have w1 : 0 ≤ w.fmod (m : Int) ∧ w.fmod (m : Int) < (m : Int) := by
      rw [Int.fmod_eq_emod_of_nonneg _ (by omega)]
      exact ⟨Int.emod_nonneg _ (by omega), Int.emod_lt_of_pos _ m2⟩
    obtain ⟨v, hv⟩ := Int.eq_ofNat_of_zero_le w1.1
    refine ⟨v, ⟨a, t, p, c + 1⟩, by omega, ⟨ha, hp, hp2⟩, ?_⟩
    simp [runDf, start, endR, takeBody, op2_some, ev_cst, ev_var, ev_bin, ev_neg, ev_not, ev_and, ev_or, ev_cmp, ev_chn, ev_isN, ev_notN, ev_ife, ev_tup, ev_lst, ev_idx, ev_slc, ev_call, ev_blt, ev_met, ev_joi, ev_lc, ev_isi, tst_eq, evI_eq, evs_nil, evs_cons, evF_nil, evF_cons, evo_no, evo_so, xs_asg, xs_asgT, xs_par, xs_sub, xs_exp, xs_ret, xs_retN, xs_if, xs_for, xs_whl, xs_brk, xs_rse, xs_cnt, xs_pas, xss_nil, xss_cons, itK_seq, itK_rng1, itK_rng2, itK_rng3, itK_enm, itK_zip, bind_ok, bind_bad, of_ok, fbind_nx, fbind_rt, fbind_bk, fbind_ct, ofO_some, ofS_some, cnt_v, cnt_o, cnt_b, cntS_eq, frz_v, frz_o, frz_b, fr_no, fr_sh, fr_ow, fr_le, fr_lf, fr_lk, putS_fr, mutS_eq, SZ, idxV, slcV, metV, mokV, mok, inS, isiV, joiV, idxR, ixN_nat, ixN_num, binR, addR, mulR, intR, cmpR, D.tr, CM, opd, slcR, bltR, metR, hand, lent, dist, back, cnts, asgT, asgTs, D.eqv, eqvL, D.pl, plL, D.dep, depL, lockO, itemsOf, unlock, freeS, wipeS, restS, D.flat, subE, h0, m0, m1, hp0, ← ht, fd, t2, ← hw, hv]
theorem take_ow {cf : Nat → List Slot → Co} {tk v : Nat} (hd : Takes4 cf tk) {e : Ex} {l l' : List Slot} {x : List D} {g : B4} {m : Nat} (hg : g.ok) (hl : l[v]? = some (.ow x)) (he : ev cf e ⟨l⟩ = .ok (.v (nt m)) ⟨l'⟩) (hl' : l'[v]? = some (.ow (bq g))) (h1 : 0 < m) (h2 : m < 1073741824) :
    ∃ (n : Nat) (g' : B4), n < m ∧ g'.ok ∧ ev cf (.call tk (.cons (.var v) (.cons e .nil))) ⟨l⟩ = .ok (.v (nt n)) ⟨l'.set v (.ow (bq g'))⟩ := by
  obtain ⟨n, g', q1, q2, q3⟩ := hd g m hg h1 h2
  refine ⟨n, g', q1, q2, call_v (rs := [.b v, .v (nt m)]) (s1 := ⟨l'⟩) (sl := [.le (bq g), .sh (nt m)]) (sl' := [.le (bq g'), .sh (nt m)]) ?_ ?_ ?_ q3 ?_⟩
  · refine evs_go (r := .b v) (s1 := ⟨l⟩) (by show getV v ⟨l⟩ = _; simp only [getV, hl]) (evs_go (r := .v (nt m)) he rfl)
  · simp only [hand, hl']; rfl
  · simp only [lent, hl']; rfl
  · simp only [back, hl']
theorem take_le {cf : Nat → List Slot → Co} {tk v : Nat} (hd : Takes4 cf tk) {e : Ex} {l l' : List Slot} {x : List D} {g : B4} {m : Nat} (hg : g.ok) (hl : l[v]? = some (.le x)) (he : ev cf e ⟨l⟩ = .ok (.v (nt m)) ⟨l'⟩) (hl' : l'[v]? = some (.le (bq g))) (h1 : 0 < m) (h2 : m < 1073741824) :
    ∃ (n : Nat) (g' : B4), n < m ∧ g'.ok ∧ ev cf (.call tk (.cons (.var v) (.cons e .nil))) ⟨l⟩ = .ok (.v (nt n)) ⟨l'.set v (.le (bq g'))⟩ := by
  obtain ⟨n, g', q1, q2, q3⟩ := hd g m hg h1 h2
  refine ⟨n, g', q1, q2, call_v (rs := [.b v, .v (nt m)]) (s1 := ⟨l'⟩) (sl := [.le (bq g), .sh (nt m)]) (sl' := [.le (bq g'), .sh (nt m)]) ?_ ?_ ?_ q3 ?_⟩
  · refine evs_go (r := .b v) (s1 := ⟨l⟩) (by show getV v ⟨l⟩ = _; simp only [getV, hl]) (evs_go (r := .v (nt m)) he rfl)
  · simp only [hand, hl']; rfl
  · simp only [lent, hl']; rfl
  · simp only [back, hl']
def bag4Body : Ss :=
  (.cons (.asg (.var 2) (.cst (.int 0)))
  (.cons (.iff (.cmp .lt (.var 1) (.blt .len (.cons (.var 0) .nil))) (.cons (.asg (.var 2) (.blt .abs (.cons (.idx (.var 0) (.var 1)) .nil)))
  .nil) .nil)
  (.cons (.asg (.var 3) (.idx (.lst (.cons (.cst (.int 2147483629)) (.cons (.cst (.int 2147483587)) (.cons (.cst (.int 2147483579)) (.cons (.cst (.int 2147483563)) (.cons (.cst (.int 2147483549)) (.cons (.cst (.int 2147483543)) (.cons (.cst (.int 2147483497)) (.cons (.cst (.int 2147483489)) .nil))))))))) (.bin .mod (.var 1) (.cst (.int 8)))))
  (.cons (.ret (.lst (.cons (.bin .mul (.var 2) (.blt .int (.cons (.cmp .ge (.var 2) (.bin .pow (.cst (.int 10)) (.cst (.int 18)))) .nil))) (.cons (.bin .mod (.bin .pow (.bin .add (.bin .add (.bin .mod (.var 2) (.cst (.int 2147483647))) (.bin .mul (.cst (.int 104729)) (.var 1))) (.cst (.int 7))) (.cst (.int 5))) (.var 3)) (.cons (.var 3) (.cons (.cst (.int 0)) .nil))))))
  .nil))))
theorem bag4_run (cf : Nat → List Slot → Co) (ns : List Int) (k : Nat) (hk : k < 1000) : ∃ g : B4, g.ok ∧ runDf ⟨2, 4, bag4Body⟩ cf [.sh (.scr ns), .sh (nt k)] = .ok (.o (bq g)) [.sh (.scr ns), .sh (nt k)] := by
  obtain ⟨c, hc0, st2⟩ : ∃ c : Int, 0 ≤ c ∧ xs cf (.iff (.cmp .lt (.var 1) (.blt .len (.cons (.var 0) .nil))) (.cons (.asg (.var 2) (.blt .abs (.cons (.idx (.var 0) (.var 1)) .nil))) .nil) .nil) ⟨[.sh (.scr ns), .sh (nt k), .sh (.int 0), .no]⟩ = .nx ⟨[.sh (.scr ns), .sh (nt k), .sh (.int c), .no]⟩ := by
    by_cases h : k < ns.length
    · have e : ns[k]? = some (ns.getD k 0) := by rw [List.getD_eq_getElem?_getD, List.getElem?_eq_getElem h]; rfl
      have e2 : ns[k] = ns.getD k 0 := by rw [List.getD_eq_getElem?_getD, List.getElem?_eq_getElem h]; rfl
      generalize ns.getD k 0 = c at e e2
      by_cases h1 : c < 0
      · exact ⟨-c, by omega, by simp [op2_some, ev_cst, ev_var, ev_bin, ev_neg, ev_not, ev_and, ev_or, ev_cmp, ev_chn, ev_isN, ev_notN, ev_ife, ev_tup, ev_lst, ev_idx, ev_slc, ev_call, ev_blt, ev_met, ev_joi, ev_lc, ev_isi, tst_eq, evI_eq, evs_nil, evs_cons, evF_nil, evF_cons, evo_no, evo_so, xs_asg, xs_asgT, xs_par, xs_sub, xs_exp, xs_ret, xs_retN, xs_if, xs_for, xs_whl, xs_brk, xs_rse, xs_cnt, xs_pas, xss_nil, xss_cons, itK_seq, itK_rng1, itK_rng2, itK_rng3, itK_enm, itK_zip, bind_ok, bind_bad, of_ok, fbind_nx, fbind_rt, fbind_bk, fbind_ct, ofO_some, ofS_some, cnt_v, cnt_o, cnt_b, cntS_eq, frz_v, frz_o, frz_b, fr_no, fr_sh, fr_ow, fr_le, fr_lf, fr_lk, putS_fr, mutS_eq, SZ, idxV, slcV, metV, mokV, mok, inS, isiV, joiV, idxR, ixN_nat, ixN_num, binR, addR, mulR, intR, cmpR, D.tr, CM, opd, slcR, bltR, metR, hand, lent, dist, back, cnts, asgT, asgTs, D.eqv, eqvL, D.pl, plL, D.dep, depL, lockO, itemsOf, unlock, freeS, wipeS, restS, D.flat, h, e, e2, h1]⟩
      · exact ⟨c, by omega, by simp [op2_some, ev_cst, ev_var, ev_bin, ev_neg, ev_not, ev_and, ev_or, ev_cmp, ev_chn, ev_isN, ev_notN, ev_ife, ev_tup, ev_lst, ev_idx, ev_slc, ev_call, ev_blt, ev_met, ev_joi, ev_lc, ev_isi, tst_eq, evI_eq, evs_nil, evs_cons, evF_nil, evF_cons, evo_no, evo_so, xs_asg, xs_asgT, xs_par, xs_sub, xs_exp, xs_ret, xs_retN, xs_if, xs_for, xs_whl, xs_brk, xs_rse, xs_cnt, xs_pas, xss_nil, xss_cons, itK_seq, itK_rng1, itK_rng2, itK_rng3, itK_enm, itK_zip, bind_ok, bind_bad, of_ok, fbind_nx, fbind_rt, fbind_bk, fbind_ct, ofO_some, ofS_some, cnt_v, cnt_o, cnt_b, cntS_eq, frz_v, frz_o, frz_b, fr_no, fr_sh, fr_ow, fr_le, fr_lf, fr_lk, putS_fr, mutS_eq, SZ, idxV, slcV, metV, mokV, mok, inS, isiV, joiV, idxR, ixN_nat, ixN_num, binR, addR, mulR, intR, cmpR, D.tr, CM, opd, slcR, bltR, metR, hand, lent, dist, back, cnts, asgT, asgTs, D.eqv, eqvL, D.pl, plL, D.dep, depL, lockO, itemsOf, unlock, freeS, wipeS, restS, D.flat, h, e, e2, h1]⟩
    · exact ⟨0, by omega, by simp [op2_some, ev_cst, ev_var, ev_bin, ev_neg, ev_not, ev_and, ev_or, ev_cmp, ev_chn, ev_isN, ev_notN, ev_ife, ev_tup, ev_lst, ev_idx, ev_slc, ev_call, ev_blt, ev_met, ev_joi, ev_lc, ev_isi, tst_eq, evI_eq, evs_nil, evs_cons, evF_nil, evF_cons, evo_no, evo_so, xs_asg, xs_asgT, xs_par, xs_sub, xs_exp, xs_ret, xs_retN, xs_if, xs_for, xs_whl, xs_brk, xs_rse, xs_cnt, xs_pas, xss_nil, xss_cons, itK_seq, itK_rng1, itK_rng2, itK_rng3, itK_enm, itK_zip, bind_ok, bind_bad, of_ok, fbind_nx, fbind_rt, fbind_bk, fbind_ct, ofO_some, ofS_some, cnt_v, cnt_o, cnt_b, cntS_eq, frz_v, frz_o, frz_b, fr_no, fr_sh, fr_ow, fr_le, fr_lf, fr_lk, putS_fr, mutS_eq, SZ, idxV, slcV, metV, mokV, mok, inS, isiV, joiV, idxR, ixN_nat, ixN_num, binR, addR, mulR, intR, cmpR, D.tr, CM, opd, slcR, bltR, metR, hand, lent, dist, back, cnts, asgT, asgTs, D.eqv, eqvL, D.pl, plL, D.dep, depL, lockO, itemsOf, unlock, freeS, wipeS, restS, D.flat, h]⟩
  obtain ⟨p, hp0, hp1, st3⟩ : ∃ p : Int, 0 < p ∧ p ≤ 2147483647 ∧ xs cf (.asg (.var 3) (.idx (.lst (.cons (.cst (.int 2147483629)) (.cons (.cst (.int 2147483587)) (.cons (.cst (.int 2147483579)) (.cons (.cst (.int 2147483563)) (.cons (.cst (.int 2147483549)) (.cons (.cst (.int 2147483543)) (.cons (.cst (.int 2147483497)) (.cons (.cst (.int 2147483489)) .nil))))))))) (.bin .mod (.var 1) (.cst (.int 8))))) ⟨[.sh (.scr ns), .sh (nt k), .sh (.int c), .no]⟩ = .nx ⟨[.sh (.scr ns), .sh (nt k), .sh (.int c), .sh (.int p)]⟩ := by
    have f : ((k : Int)).fmod 8 = ((k % 8 : Nat) : Int) := by rw [Int.fmod_eq_emod_of_nonneg _ (by decide)]; rfl
    have hq : k % 8 < 8 := Nat.mod_lt _ (by decide)
    generalize hq0 : k % 8 = q at f hq
    have e : q = 0 ∨ q = 1 ∨ q = 2 ∨ q = 3 ∨ q = 4 ∨ q = 5 ∨ q = 6 ∨ q = 7 := by omega
    rcases e with rfl | rfl | rfl | rfl | rfl | rfl | rfl | rfl
    · exact ⟨2147483629, by decide, by decide, by simp [op2_some, ev_cst, ev_var, ev_bin, ev_neg, ev_not, ev_and, ev_or, ev_cmp, ev_chn, ev_isN, ev_notN, ev_ife, ev_tup, ev_lst, ev_idx, ev_slc, ev_call, ev_blt, ev_met, ev_joi, ev_lc, ev_isi, tst_eq, evI_eq, evs_nil, evs_cons, evF_nil, evF_cons, evo_no, evo_so, xs_asg, xs_asgT, xs_par, xs_sub, xs_exp, xs_ret, xs_retN, xs_if, xs_for, xs_whl, xs_brk, xs_rse, xs_cnt, xs_pas, xss_nil, xss_cons, itK_seq, itK_rng1, itK_rng2, itK_rng3, itK_enm, itK_zip, bind_ok, bind_bad, of_ok, fbind_nx, fbind_rt, fbind_bk, fbind_ct, ofO_some, ofS_some, cnt_v, cnt_o, cnt_b, cntS_eq, frz_v, frz_o, frz_b, fr_no, fr_sh, fr_ow, fr_le, fr_lf, fr_lk, putS_fr, mutS_eq, SZ, idxV, slcV, metV, mokV, mok, inS, isiV, joiV, idxR, ixN_nat, ixN_num, binR, addR, mulR, intR, cmpR, D.tr, CM, opd, slcR, bltR, metR, hand, lent, dist, back, cnts, asgT, asgTs, D.eqv, eqvL, D.pl, plL, D.dep, depL, lockO, itemsOf, unlock, freeS, wipeS, restS, D.flat, f]⟩
    · exact ⟨2147483587, by decide, by decide, by simp [op2_some, ev_cst, ev_var, ev_bin, ev_neg, ev_not, ev_and, ev_or, ev_cmp, ev_chn, ev_isN, ev_notN, ev_ife, ev_tup, ev_lst, ev_idx, ev_slc, ev_call, ev_blt, ev_met, ev_joi, ev_lc, ev_isi, tst_eq, evI_eq, evs_nil, evs_cons, evF_nil, evF_cons, evo_no, evo_so, xs_asg, xs_asgT, xs_par, xs_sub, xs_exp, xs_ret, xs_retN, xs_if, xs_for, xs_whl, xs_brk, xs_rse, xs_cnt, xs_pas, xss_nil, xss_cons, itK_seq, itK_rng1, itK_rng2, itK_rng3, itK_enm, itK_zip, bind_ok, bind_bad, of_ok, fbind_nx, fbind_rt, fbind_bk, fbind_ct, ofO_some, ofS_some, cnt_v, cnt_o, cnt_b, cntS_eq, frz_v, frz_o, frz_b, fr_no, fr_sh, fr_ow, fr_le, fr_lf, fr_lk, putS_fr, mutS_eq, SZ, idxV, slcV, metV, mokV, mok, inS, isiV, joiV, idxR, ixN_nat, ixN_num, binR, addR, mulR, intR, cmpR, D.tr, CM, opd, slcR, bltR, metR, hand, lent, dist, back, cnts, asgT, asgTs, D.eqv, eqvL, D.pl, plL, D.dep, depL, lockO, itemsOf, unlock, freeS, wipeS, restS, D.flat, f]⟩
    · exact ⟨2147483579, by decide, by decide, by simp [op2_some, ev_cst, ev_var, ev_bin, ev_neg, ev_not, ev_and, ev_or, ev_cmp, ev_chn, ev_isN, ev_notN, ev_ife, ev_tup, ev_lst, ev_idx, ev_slc, ev_call, ev_blt, ev_met, ev_joi, ev_lc, ev_isi, tst_eq, evI_eq, evs_nil, evs_cons, evF_nil, evF_cons, evo_no, evo_so, xs_asg, xs_asgT, xs_par, xs_sub, xs_exp, xs_ret, xs_retN, xs_if, xs_for, xs_whl, xs_brk, xs_rse, xs_cnt, xs_pas, xss_nil, xss_cons, itK_seq, itK_rng1, itK_rng2, itK_rng3, itK_enm, itK_zip, bind_ok, bind_bad, of_ok, fbind_nx, fbind_rt, fbind_bk, fbind_ct, ofO_some, ofS_some, cnt_v, cnt_o, cnt_b, cntS_eq, frz_v, frz_o, frz_b, fr_no, fr_sh, fr_ow, fr_le, fr_lf, fr_lk, putS_fr, mutS_eq, SZ, idxV, slcV, metV, mokV, mok, inS, isiV, joiV, idxR, ixN_nat, ixN_num, binR, addR, mulR, intR, cmpR, D.tr, CM, opd, slcR, bltR, metR, hand, lent, dist, back, cnts, asgT, asgTs, D.eqv, eqvL, D.pl, plL, D.dep, depL, lockO, itemsOf, unlock, freeS, wipeS, restS, D.flat, f]⟩
    · exact ⟨2147483563, by decide, by decide, by simp [op2_some, ev_cst, ev_var, ev_bin, ev_neg, ev_not, ev_and, ev_or, ev_cmp, ev_chn, ev_isN, ev_notN, ev_ife, ev_tup, ev_lst, ev_idx, ev_slc, ev_call, ev_blt, ev_met, ev_joi, ev_lc, ev_isi, tst_eq, evI_eq, evs_nil, evs_cons, evF_nil, evF_cons, evo_no, evo_so, xs_asg, xs_asgT, xs_par, xs_sub, xs_exp, xs_ret, xs_retN, xs_if, xs_for, xs_whl, xs_brk, xs_rse, xs_cnt, xs_pas, xss_nil, xss_cons, itK_seq, itK_rng1, itK_rng2, itK_rng3, itK_enm, itK_zip, bind_ok, bind_bad, of_ok, fbind_nx, fbind_rt, fbind_bk, fbind_ct, ofO_some, ofS_some, cnt_v, cnt_o, cnt_b, cntS_eq, frz_v, frz_o, frz_b, fr_no, fr_sh, fr_ow, fr_le, fr_lf, fr_lk, putS_fr, mutS_eq, SZ, idxV, slcV, metV, mokV, mok, inS, isiV, joiV, idxR, ixN_nat, ixN_num, binR, addR, mulR, intR, cmpR, D.tr, CM, opd, slcR, bltR, metR, hand, lent, dist, back, cnts, asgT, asgTs, D.eqv, eqvL, D.pl, plL, D.dep, depL, lockO, itemsOf, unlock, freeS, wipeS, restS, D.flat, f]⟩
    · exact ⟨2147483549, by decide, by decide, by simp [op2_some, ev_cst, ev_var, ev_bin, ev_neg, ev_not, ev_and, ev_or, ev_cmp, ev_chn, ev_isN, ev_notN, ev_ife, ev_tup, ev_lst, ev_idx, ev_slc, ev_call, ev_blt, ev_met, ev_joi, ev_lc, ev_isi, tst_eq, evI_eq, evs_nil, evs_cons, evF_nil, evF_cons, evo_no, evo_so, xs_asg, xs_asgT, xs_par, xs_sub, xs_exp, xs_ret, xs_retN, xs_if, xs_for, xs_whl, xs_brk, xs_rse, xs_cnt, xs_pas, xss_nil, xss_cons, itK_seq, itK_rng1, itK_rng2, itK_rng3, itK_enm, itK_zip, bind_ok, bind_bad, of_ok, fbind_nx, fbind_rt, fbind_bk, fbind_ct, ofO_some, ofS_some, cnt_v, cnt_o, cnt_b, cntS_eq, frz_v, frz_o, frz_b, fr_no, fr_sh, fr_ow, fr_le, fr_lf, fr_lk, putS_fr, mutS_eq, SZ, idxV, slcV, metV, mokV, mok, inS, isiV, joiV, idxR, ixN_nat, ixN_num, binR, addR, mulR, intR, cmpR, D.tr, CM, opd, slcR, bltR, metR, hand, lent, dist, back, cnts, asgT, asgTs, D.eqv, eqvL, D.pl, plL, D.dep, depL, lockO, itemsOf, unlock, freeS, wipeS, restS, D.flat, f]⟩
    · exact ⟨2147483543, by decide, by decide, by simp [op2_some, ev_cst, ev_var, ev_bin, ev_neg, ev_not, ev_and, ev_or, ev_cmp, ev_chn, ev_isN, ev_notN, ev_ife, ev_tup, ev_lst, ev_idx, ev_slc, ev_call, ev_blt, ev_met, ev_joi, ev_lc, ev_isi, tst_eq, evI_eq, evs_nil, evs_cons, evF_nil, evF_cons, evo_no, evo_so, xs_asg, xs_asgT, xs_par, xs_sub, xs_exp, xs_ret, xs_retN, xs_if, xs_for, xs_whl, xs_brk, xs_rse, xs_cnt, xs_pas, xss_nil, xss_cons, itK_seq, itK_rng1, itK_rng2, itK_rng3, itK_enm, itK_zip, bind_ok, bind_bad, of_ok, fbind_nx, fbind_rt, fbind_bk, fbind_ct, ofO_some, ofS_some, cnt_v, cnt_o, cnt_b, cntS_eq, frz_v, frz_o, frz_b, fr_no, fr_sh, fr_ow, fr_le, fr_lf, fr_lk, putS_fr, mutS_eq, SZ, idxV, slcV, metV, mokV, mok, inS, isiV, joiV, idxR, ixN_nat, ixN_num, binR, addR, mulR, intR, cmpR, D.tr, CM, opd, slcR, bltR, metR, hand, lent, dist, back, cnts, asgT, asgTs, D.eqv, eqvL, D.pl, plL, D.dep, depL, lockO, itemsOf, unlock, freeS, wipeS, restS, D.flat, f]⟩
    · exact ⟨2147483497, by decide, by decide, by simp [op2_some, ev_cst, ev_var, ev_bin, ev_neg, ev_not, ev_and, ev_or, ev_cmp, ev_chn, ev_isN, ev_notN, ev_ife, ev_tup, ev_lst, ev_idx, ev_slc, ev_call, ev_blt, ev_met, ev_joi, ev_lc, ev_isi, tst_eq, evI_eq, evs_nil, evs_cons, evF_nil, evF_cons, evo_no, evo_so, xs_asg, xs_asgT, xs_par, xs_sub, xs_exp, xs_ret, xs_retN, xs_if, xs_for, xs_whl, xs_brk, xs_rse, xs_cnt, xs_pas, xss_nil, xss_cons, itK_seq, itK_rng1, itK_rng2, itK_rng3, itK_enm, itK_zip, bind_ok, bind_bad, of_ok, fbind_nx, fbind_rt, fbind_bk, fbind_ct, ofO_some, ofS_some, cnt_v, cnt_o, cnt_b, cntS_eq, frz_v, frz_o, frz_b, fr_no, fr_sh, fr_ow, fr_le, fr_lf, fr_lk, putS_fr, mutS_eq, SZ, idxV, slcV, metV, mokV, mok, inS, isiV, joiV, idxR, ixN_nat, ixN_num, binR, addR, mulR, intR, cmpR, D.tr, CM, opd, slcR, bltR, metR, hand, lent, dist, back, cnts, asgT, asgTs, D.eqv, eqvL, D.pl, plL, D.dep, depL, lockO, itemsOf, unlock, freeS, wipeS, restS, D.flat, f]⟩
    · exact ⟨2147483489, by decide, by decide, by simp [op2_some, ev_cst, ev_var, ev_bin, ev_neg, ev_not, ev_and, ev_or, ev_cmp, ev_chn, ev_isN, ev_notN, ev_ife, ev_tup, ev_lst, ev_idx, ev_slc, ev_call, ev_blt, ev_met, ev_joi, ev_lc, ev_isi, tst_eq, evI_eq, evs_nil, evs_cons, evF_nil, evF_cons, evo_no, evo_so, xs_asg, xs_asgT, xs_par, xs_sub, xs_exp, xs_ret, xs_retN, xs_if, xs_for, xs_whl, xs_brk, xs_rse, xs_cnt, xs_pas, xss_nil, xss_cons, itK_seq, itK_rng1, itK_rng2, itK_rng3, itK_enm, itK_zip, bind_ok, bind_bad, of_ok, fbind_nx, fbind_rt, fbind_bk, fbind_ct, ofO_some, ofS_some, cnt_v, cnt_o, cnt_b, cntS_eq, frz_v, frz_o, frz_b, fr_no, fr_sh, fr_ow, fr_le, fr_lf, fr_lk, putS_fr, mutS_eq, SZ, idxV, slcV, metV, mokV, mok, inS, isiV, joiV, idxR, ixN_nat, ixN_num, binR, addR, mulR, intR, cmpR, D.tr, CM, opd, slcR, bltR, metR, hand, lent, dist, back, cnts, asgT, asgTs, D.eqv, eqvL, D.pl, plL, D.dep, depL, lockO, itemsOf, unlock, freeS, wipeS, restS, D.flat, f]⟩
  obtain ⟨r, hr0, hr1⟩ : ∃ r : Int, r = c.fmod 2147483647 ∧ (0 ≤ r ∧ r < 2147483647) := ⟨_, rfl, by
    rw [Int.fmod_eq_emod_of_nonneg _ (by decide)]; omega⟩
  have z : (r + 104729 * (k : Int) + 7).natAbs < 18446744073709551616 := by omega
  have zp : ¬ p = 0 := by omega
  by_cases h : (1000000000000000000 : Int) ≤ c
  · refine ⟨⟨c * 1, ((r + 104729 * (k : Int) + 7) ^ 5).fmod p, p, 0⟩, ⟨?_, hp0, hp1⟩, run_o (s := ⟨[.sh (.scr ns), .sh (nt k), .sh (.int c), .sh (.int p)]⟩) ⟨rfl, (show 2 ≤ 4 from by decide)⟩ (xss_go (s1 := ⟨[.sh (.scr ns), .sh (nt k), .sh (.int 0), .no]⟩) rfl (xss_go st2 (xss_go st3 ?_))) rfl rfl⟩
    · show 0 ≤ c * 1; omega
    · simp [op2_some, ev_cst, ev_var, ev_bin, ev_neg, ev_not, ev_and, ev_or, ev_cmp, ev_chn, ev_isN, ev_notN, ev_ife, ev_tup, ev_lst, ev_idx, ev_slc, ev_call, ev_blt, ev_met, ev_joi, ev_lc, ev_isi, tst_eq, evI_eq, evs_nil, evs_cons, evF_nil, evF_cons, evo_no, evo_so, xs_asg, xs_asgT, xs_par, xs_sub, xs_exp, xs_ret, xs_retN, xs_if, xs_for, xs_whl, xs_brk, xs_rse, xs_cnt, xs_pas, xss_nil, xss_cons, itK_seq, itK_rng1, itK_rng2, itK_rng3, itK_enm, itK_zip, bind_ok, bind_bad, of_ok, fbind_nx, fbind_rt, fbind_bk, fbind_ct, ofO_some, ofS_some, cnt_v, cnt_o, cnt_b, cntS_eq, frz_v, frz_o, frz_b, fr_no, fr_sh, fr_ow, fr_le, fr_lf, fr_lk, putS_fr, mutS_eq, SZ, idxV, slcV, metV, mokV, mok, inS, isiV, joiV, idxR, ixN_nat, ixN_num, binR, addR, mulR, intR, cmpR, D.tr, CM, opd, slcR, bltR, metR, hand, lent, dist, back, cnts, asgT, asgTs, D.eqv, eqvL, D.pl, plL, D.dep, depL, lockO, itemsOf, unlock, freeS, wipeS, restS, D.flat, h, ← hr0, z, zp]
  · refine ⟨⟨c * 0, ((r + 104729 * (k : Int) + 7) ^ 5).fmod p, p, 0⟩, ⟨?_, hp0, hp1⟩, run_o (s := ⟨[.sh (.scr ns), .sh (nt k), .sh (.int c), .sh (.int p)]⟩) ⟨rfl, (show 2 ≤ 4 from by decide)⟩ (xss_go (s1 := ⟨[.sh (.scr ns), .sh (nt k), .sh (.int 0), .no]⟩) rfl (xss_go st2 (xss_go st3 ?_))) rfl rfl⟩
    · show 0 ≤ c * 0; omega
    · simp [op2_some, ev_cst, ev_var, ev_bin, ev_neg, ev_not, ev_and, ev_or, ev_cmp, ev_chn, ev_isN, ev_notN, ev_ife, ev_tup, ev_lst, ev_idx, ev_slc, ev_call, ev_blt, ev_met, ev_joi, ev_lc, ev_isi, tst_eq, evI_eq, evs_nil, evs_cons, evF_nil, evF_cons, evo_no, evo_so, xs_asg, xs_asgT, xs_par, xs_sub, xs_exp, xs_ret, xs_retN, xs_if, xs_for, xs_whl, xs_brk, xs_rse, xs_cnt, xs_pas, xss_nil, xss_cons, itK_seq, itK_rng1, itK_rng2, itK_rng3, itK_enm, itK_zip, bind_ok, bind_bad, of_ok, fbind_nx, fbind_rt, fbind_bk, fbind_ct, ofO_some, ofS_some, cnt_v, cnt_o, cnt_b, cntS_eq, frz_v, frz_o, frz_b, fr_no, fr_sh, fr_ow, fr_le, fr_lf, fr_lk, putS_fr, mutS_eq, SZ, idxV, slcV, metV, mokV, mok, inS, isiV, joiV, idxR, ixN_nat, ixN_num, binR, addR, mulR, intR, cmpR, D.tr, CM, opd, slcR, bltR, metR, hand, lent, dist, back, cnts, asgT, asgTs, D.eqv, eqvL, D.pl, plL, D.dep, depL, lockO, itemsOf, unlock, freeS, wipeS, restS, D.flat, h, ← hr0, z, zp]
/-! numbers written by twos -/
def writ (n m : Nat) : List Nat := (List.range m).map fun k => 48 + n / 2 ^ (m - 1 - k) % 2
theorem writ_len (n m : Nat) : (writ n m).length = m := by simp [writ]
def Bt (cs : List Nat) : Prop := ∀ c ∈ cs, c = 48 ∨ c = 49
theorem writ_bt (n m : Nat) : Bt (writ n m) := fun c h => by
  obtain ⟨k, _, rfl⟩ := List.mem_map.mp h
  rcases Nat.mod_two_eq_zero_or_one (n / 2 ^ (m - 1 - k)) with h | h <;> rw [h] <;> simp
theorem Bt.app {a b : List Nat} (h : Bt a) (k : Bt b) : Bt (a ++ b) := fun c hc => (List.mem_append.mp hc).elim (h c) (k c)
theorem Bt.sub {a b : List Nat} (h : Bt a) (k : ∀ c ∈ b, c ∈ a) : Bt b := fun c hc => h c (k c hc)
theorem Bt.take {a : List Nat} (n : Nat) (h : Bt a) : Bt (a.take n) := h.sub fun _ => List.mem_of_mem_take
theorem Bt.drop {a : List Nat} (n : Nat) (h : Bt a) : Bt (a.drop n) := h.sub fun _ => List.mem_of_mem_drop
theorem Bt.rep {c : Nat} (n : Nat) (h : c = 48 ∨ c = 49) : Bt (List.replicate n c) := fun d hd => by rw [List.eq_of_mem_replicate hd]; exact h
theorem rng3_go {cf : Nat → List Slot → Co} {es : Exs} {s s1 : S} {i j c : Int} {n : Nat} (h1 : evs cf es s = .ok [.v (.int i), .v (.int j), .v (.int c)] s1) (hi : inR i = true) (hj : inR j = true) (hc : (c != 0) = true) (hc2 : c.natAbs < 1000000000) (hn : rgN i j c = n) :
    evI .rng3 (evs cf es) s = .ok ((List.range n).map fun (k : Nat) => .int (i + (k : Int) * c), []) s1 := by
  unfold evI
  rw [h1, bind_ok, itK_rng3, hi, hj, hc, decide_eq_true hc2, hn, if_pos (by rfl)]
theorem inR_neg1 : inR (-1) = true := by decide
theorem lcL_allF {t : Tg} {vs : List Nat} {fc : S → Ro Bool} {fe : S → Ro Rv} {s : S} {n : Nat} (f : Nat → D) (g : Nat → D) (hn : n ≤ 16777216)
    (step : ∀ k < n, ∃ s1, asgT t (f k) s = some s1 ∧ fc s1 = .ok true s1 ∧ (fe s1).bind frz = .ok (g k) s1 ∧ wipeS s1 vs = s) :
    lcL t vs fc fe ((List.range n).map f) [] s = .ok ((List.range n).map g) s := by
  have : ∀ (m a : Nat) (acc : List D), a + m = n → acc.length = a → lcL t vs fc fe ((List.range' a m).map f) acc s = .ok (acc ++ (List.range' a m).map g) s := by
    intro m
    induction m with
    | zero => intro a acc _ _; simp [lcL]
    | succ m ih =>
      intro a acc h1 h2
      obtain ⟨s1, q1, q2, q3, q4⟩ := step a (by omega)
      rw [List.range'_succ, List.map_cons]
      unfold lcL
      rw [q1]
      dsimp only
      rw [q2]
      dsimp only
      rw [q3]
      dsimp only
      rw [if_pos (by show acc.length < 16777216; omega), q4, ih (a + 1) _ (by omega) (by simp [h2])]
      simp
  have h := this n 0 [] (by omega) rfl
  rw [← List.range_eq_range'] at h
  simpa using h
def writtenBody : Ss :=
  (.cons (.ret (.met .join (.cst (.str [])) (.cons (.lc (.blt .str (.cons (.bin .band (.bin .shr (.var 0) (.var 2)) (.cst (.int 1))) .nil)) (.var 2) .rng3 (.cons (.bin .sub (.var 1) (.cst (.int 1))) (.cons (.neg (.cst (.int 1))) (.cons (.neg (.cst (.int 1))) .nil))) (.cst (.bl true)) [2]) .nil)))
  .nil)
theorem bit_run (cf : Nat → List Slot → Co) (A : Slot) (n j : Nat) : ev cf (.blt .str (.cons (.bin .band (.bin .shr (.var 0) (.var 2)) (.cst (.int 1))) .nil)) ⟨[.sh (nt n), A, .sh (nt j)]⟩ = .ok (.v (.str [48 + n / 2 ^ j % 2])) ⟨[.sh (nt n), A, .sh (nt j)]⟩ := by
  obtain ⟨q, hq⟩ : ∃ q, q = n / 2 ^ j := ⟨_, rfl⟩
  have e : (n : Int) / 2 ^ j = (q : Int) := by rw [hq]; push_cast; rfl
  rw [← hq]
  have e2 : q &&& 1 = q % 2 := Nat.and_one_is_mod q
  rcases Nat.mod_two_eq_zero_or_one q with h | h <;> rw [h] at e2 ⊢ <;> simp only [nt] <;> simp [op2_some, ev_cst, ev_var, ev_bin, ev_neg, ev_not, ev_and, ev_or, ev_cmp, ev_chn, ev_isN, ev_notN, ev_ife, ev_tup, ev_lst, ev_idx, ev_slc, ev_call, ev_blt, ev_met, ev_joi, ev_lc, ev_isi, tst_eq, evI_eq, evs_nil, evs_cons, evF_nil, evF_cons, evo_no, evo_so, xs_asg, xs_asgT, xs_par, xs_sub, xs_exp, xs_ret, xs_retN, xs_if, xs_for, xs_whl, xs_brk, xs_rse, xs_cnt, xs_pas, xss_nil, xss_cons, itK_seq, itK_rng1, itK_rng2, itK_rng3, itK_enm, itK_zip, bind_ok, bind_bad, of_ok, fbind_nx, fbind_rt, fbind_bk, fbind_ct, ofO_some, ofS_some, cnt_v, cnt_o, cnt_b, cntS_eq, frz_v, frz_o, frz_b, fr_no, fr_sh, fr_ow, fr_le, fr_lf, fr_lk, putS_fr, mutS_eq, SZ, idxV, slcV, metV, mokV, mok, inS, isiV, joiV, idxR, ixN_nat, ixN_num, binR, addR, mulR, intR, cmpR, D.tr, CM, opd, slcR, bltR, metR, hand, lent, dist, back, cnts, asgT, asgTs, D.eqv, eqvL, D.pl, plL, D.dep, depL, lockO, itemsOf, unlock, freeS, wipeS, restS, D.flat, e, e2, h]
theorem written_run (cf : Nat → List Slot → Co) (n m : Nat) (hm : m ≤ 1000) : runDf ⟨2, 3, writtenBody⟩ cf [.sh (nt n), .sh (nt m)] = .ok (.v (.str (writ n m))) [.sh (nt n), .sh (nt m)] := by
  have h := lcL_allF (t := .var 2) (vs := [2]) (fc := tst (ev cf (.cst (.bl true)))) (fe := ev cf (.blt .str (.cons (.bin .band (.bin .shr (.var 0) (.var 2)) (.cst (.int 1))) .nil))) (s := ⟨[.sh (nt n), .sh (nt m), .no]⟩) (n := m) (fun (k : Nat) => .int ((m : Int) - 1 + (k : Int) * (-1))) (fun k => .str [48 + n / 2 ^ (m - 1 - k) % 2]) (by omega) (fun k hk => by
    have e : (m : Int) - 1 + (k : Int) * (-1) = ((m - 1 - k : Nat) : Int) := by omega
    refine ⟨⟨[.sh (nt n), .sh (nt m), .sh (nt (m - 1 - k))]⟩, by rw [e]; rfl, rfl, ?_, rfl⟩
    rw [bit_run]; rfl)
  have e : (List.range m).map (fun k => D.str [48 + n / 2 ^ (m - 1 - k) % 2]) = (writ n m).map fun c => .str [c] := by unfold writ; rw [List.map_map]; rfl
  rw [e] at h
  have hn : rgN ((m : Int) - 1) (-1) (-1) = m := by unfold rgN; simp; omega
  have hi : inR ((m : Int) - 1) = true := by unfold inR; rw [decide_eq_true_eq]; omega
  have hl := lc_go (cf := cf) (e := .blt .str (.cons (.bin .band (.bin .shr (.var 0) (.var 2)) (.cst (.int 1))) .nil)) (c := .cst (.bl true)) (t := .var 2) (k := .rng3) (es := .cons (.bin .sub (.var 1) (.cst (.int 1))) (.cons (.neg (.cst (.int 1))) (.cons (.neg (.cst (.int 1))) .nil))) (vs := [2]) (s := ⟨[.sh (nt n), .sh (nt m), .no]⟩) (rng3_go (i := (m : Int) - 1) (j := -1) (c := -1) (s1 := ⟨[.sh (nt n), .sh (nt m), .no]⟩) rfl hi inR_neg1 rfl (by decide) hn) rfl h
  have hj := join_go hl (by rw [writ_len]; omega)
  refine run_v (s := ⟨[.sh (nt n), .sh (nt m), .no]⟩) ⟨rfl, (show 2 ≤ 3 from by decide)⟩ ?_ rfl rfl
  show (xs cf (.ret _) _).bind _ = _
  unfold writtenBody start
  show Fo.bind (xs cf (.ret _) ⟨[.sh (nt n), .sh (nt m), .no]⟩) _ = _
  rw [xs_ret, hj]; rfl
/-! any bits -/
theorem strsOf_map (ws : List (List Nat)) : strsOf (ws.map D.str) = some ws := by
  induction ws with
  | nil => rfl
  | cons w ws ih => simp [strsOf, ih]
theorem joinL_nil (ws : List (List Nat)) : joinL [] ws = ws.flatten := by
  induction ws with
  | nil => rfl
  | cons w ws ih =>
    cases ws with
    | nil => simp [joinL]
    | cons v vs => simpa [joinL] using ih
theorem join_wsF {cf : Nat → List Slot → Co} {es : Exs} {s s2 : S} {ws : List (List Nat)} (h2 : evF cf es s = .ok [.lst (ws.map D.str)] s2) (hl : (ws.map List.length).sum ≤ 1000000) : ev cf (.met .join (.cst (.str [])) es) s = .ok (.v (.str ws.flatten)) s2 := by
  show eMet .join (ev cf (.cst (.str []))) (evF cf es) s = _
  have h0 : ev cf (.cst (.str [])) s = .ok (.v (.str [])) s := rfl
  unfold eMet
  rw [h0, bind_ok]
  show (evF cf es s).bind _ = _
  rw [h2, bind_ok]
  have h3 : metR .join (.str []) [.lst (ws.map D.str)] = some (.v (.str ws.flatten), none) := by
    show ((strsOf (ws.map D.str)).bind fun ss => if (ss.map List.length).sum + ss.length * ([] : List Nat).length ≤ SZ then some (Rv.v (.str (joinL [] ss)), (none : Option (List D))) else none) = _
    rw [strsOf_map]
    show (if (ws.map List.length).sum + ws.length * 0 ≤ SZ then _ else _) = _
    rw [if_pos (by show _ + _ * 0 ≤ 16777216; omega), joinL_nil]
  show (match metR .join (.str []) [.lst (ws.map D.str)] with
  | none => Ro.bad
  | some (r, none) => .ok r s2
  | some (r, some xs) => .bad) = _
  rw [h3]
theorem joi_ws {cf : Nat → List Slot → Co} {es : Exs} {s s2 : S} {rs : List Rv} {ws : List (List Nat)} (h2 : evs cf es s = .ok rs s2) (h4 : cnts s2 rs = some [.lst (ws.map D.str)]) (hl : (ws.map List.length).sum ≤ 1000000) : ev cf (.joi (.cst (.str [])) es) s = .ok (.v (.str ws.flatten)) s2 := by
  show eJoi (ev cf (.cst (.str []))) (evs cf es) s = _
  have h0 : ev cf (.cst (.str [])) s = .ok (.v (.str [])) s := rfl
  unfold eJoi
  rw [h0, bind_ok]
  show (evs cf es s).bind _ = _
  rw [h2, bind_ok]
  show ofO ((cnts s2 rs).bind fun ds => (metR .join (.str []) ds).map (·.1)) s2 = _
  rw [h4]
  show ofO ((metR .join (.str []) [.lst (ws.map D.str)]).map (·.1)) s2 = _
  have h3 : metR .join (.str []) [.lst (ws.map D.str)] = some (.v (.str ws.flatten), none) := by
    show ((strsOf (ws.map D.str)).bind fun ss => if (ss.map List.length).sum + ss.length * ([] : List Nat).length ≤ SZ then some (Rv.v (.str (joinL [] ss)), (none : Option (List D))) else none) = _
    rw [strsOf_map]
    show (if (ws.map List.length).sum + ws.length * 0 ≤ SZ then _ else _) = _
    rw [if_pos (by show _ + _ * 0 ≤ 16777216; omega), joinL_nil]
  rw [h3]; rfl
theorem cut_m1 {α : Type} (xs : List α) : cut xs none (some (-1)) = xs.take (xs.length - 1) := by
  unfold cut
  show (xs.drop 0).take ((if (-1 : Int) < 0 then ((-1 : Int) + (xs.length : Int)).toNat else min (-1 : Int).toNat xs.length) - 0) = _
  rw [if_pos (by decide), List.drop_zero]
  congr 1
  omega
theorem ixN_m1 (n : Nat) : ixN n (-1) = if 0 < n then some (n - 1) else none := by
  have := ixN_neg n 1
  simp at this
  by_cases h : 0 < n
  · rw [if_pos h]; rw [if_pos (by omega)] at this; exact this
  · rw [if_neg h]; rw [if_neg (by omega)] at this; exact this
theorem evF_o {cf : Nat → List Slot → Co} {e : Ex} {s s1 : S} {ds : List D} (h1 : ev cf e s = .ok (.o ds) s1) : evF cf (.cons e .nil) s = .ok [.lst ds] s1 := by
  show ((ev cf e s).bind frz).bind (fun x s1 => (evF cf .nil s1).bind fun xs s2 => .ok (x :: xs) s2) = _
  rw [h1]; rfl
def oneB (tk : Nat) : Ss := (.cons (.asg (.var 5) (.call tk (.cons (.var 0) (.cons (.var 1) .nil))))
  (.cons (.asg (.var 4) (.bin .add (.bin .add (.slc (.var 4) .no (.so (.var 5))) (.idx (.cst (.str [48, 49])) (.bin .sub (.var 2) (.cst (.int 4))))) (.slc (.var 4) (.so (.bin .add (.var 5) (.cst (.int 1)))) .no)))
  .nil))
def anyE (tk wr : Nat) : Ex := (.lc (.call wr (.cons (.call tk (.cons (.var 0) (.cons (.cst (.int 65536)) .nil))) (.cons (.cst (.int 16)) .nil))) (.var 3) .rng1 (.cons (.bin .add (.bin .fdiv (.var 1) (.cst (.int 16))) (.cst (.int 1))) .nil) (.cst (.bl true)) [3])
def anyBody (tk wr : Nat) : Ss :=
  (.cons (.asg (.var 2) (.call tk (.cons (.var 0) (.cons (.cst (.int 6)) .nil))))
  (.cons (.iff (.cmp .lt (.var 2) (.cst (.int 3))) (.cons (.ret (.slc (.met .join (.cst (.str [])) (.cons (anyE tk wr) .nil)) .no (.so (.var 1))))
  .nil) .nil)
  (.cons (.iff (.cmp .eq (.var 2) (.cst (.int 3))) (.cons (.ret (.slc (.bin .mul (.call wr (.cons (.call tk (.cons (.var 0) (.cons (.cst (.int 256)) .nil))) (.cons (.cst (.int 8)) .nil))) (.bin .add (.bin .fdiv (.var 1) (.cst (.int 8))) (.cst (.int 1)))) .no (.so (.var 1))))
  .nil) .nil)
  (.cons (.asg (.var 4) (.bin .mul (.idx (.cst (.str [49, 48])) (.bin .sub (.var 2) (.cst (.int 4)))) (.var 1)))
  (.cons (.fors (.var 3) .rng1 (.cons (.bin .mul (.call tk (.cons (.var 0) (.cons (.cst (.int 4)) .nil))) (.blt .int (.cons (.cmp .gt (.var 1) (.cst (.int 0))) .nil))) .nil) (oneB tk))
  (.cons (.ret (.var 4))
  .nil))))))
def Writes (cf : Nat → List Slot → Co) (wr : Nat) : Prop := ∀ n m : Nat, m ≤ 1000 → cf wr [.sh (nt n), .sh (nt m)] = .ok (.v (.str (writ n m))) [.sh (nt n), .sh (nt m)]
section
variable {cf : Nat → List Slot → Co} {tk wr : Nat} (ht : Takes4 cf tk) (hw : Writes cf wr)
include ht hw
theorem any_lc (many : Nat) (hm : many ≤ 100000) (g : B4) (hg : g.ok) (A2 A4 A5 : Slot) : ∃ (ws : List (List Nat)) (g' : B4), g'.ok ∧ ws.length = many / 16 + 1 ∧ (∀ w ∈ ws, w.length = 16 ∧ Bt w) ∧
    ev cf (anyE tk wr) ⟨[.le (bq g), .sh (nt many), A2, .no, A4, A5]⟩ = .ok (.o (ws.map D.str)) ⟨[.le (bq g'), .sh (nt many), A2, .no, A4, A5]⟩ := by
  obtain ⟨acc, s', hl, ⟨ws, g', q1, q2, q3, rfl, rfl⟩, h⟩ := lcL_rng0 (t := .var 3) (vs := [3]) (n := many / 16 + 1) (fc := tst (ev cf (.cst (.bl true)))) (fe := ev cf (.call wr (.cons (.call tk (.cons (.var 0) (.cons (.cst (.int 65536)) .nil))) (.cons (.cst (.int 16)) .nil))))
    (s := ⟨[.le (bq g), .sh (nt many), A2, .no, A4, A5]⟩) (by show _ ≤ 16777216; omega)
    (fun k acc s => ∃ (ws : List (List Nat)) (g' : B4), g'.ok ∧ ws.length = k ∧ (∀ w ∈ ws, w.length = 16 ∧ Bt w) ∧ acc = ws.map D.str ∧ s = ⟨[.le (bq g'), .sh (nt many), A2, .no, A4, A5]⟩)
    ⟨[], g, hg, rfl, (fun w h => by cases h), rfl, rfl⟩ (fun k acc s hk ⟨ws, g, q1, q2, q3, ea, es⟩ => by
      subst ea es
      obtain ⟨v, g', r1, r2, r3⟩ := take_le ht (e := .cst (.int 65536)) (m := 65536) (v := 0) (l := [.le (bq g), .sh (nt many), A2, .sh (nt k), A4, A5]) (l' := [.le (bq g), .sh (nt many), A2, .sh (nt k), A4, A5]) q1 rfl rfl rfl (by decide) (by decide)
      have h16 := hw v 16 (by decide)
      refine ⟨⟨[.le (bq g), .sh (nt many), A2, .sh (nt k), A4, A5]⟩, ⟨[.le (bq g), .sh (nt many), A2, .sh (nt k), A4, A5]⟩, ⟨[.le (bq g'), .sh (nt many), A2, .sh (nt k), A4, A5]⟩, .str (writ v 16), rfl, rfl, ?_, ws ++ [writ v 16], g', r2, by simp [q2], ?_, by simp, rfl⟩
      · rw [call_v (rs := [.v (nt v), .v (nt 16)]) (s1 := ⟨[.le (bq g'), .sh (nt many), A2, .sh (nt k), A4, A5]⟩) (evs_go r3 (evs_go (r := .v (nt 16)) rfl rfl)) rfl rfl h16 (s2 := ⟨[.le (bq g'), .sh (nt many), A2, .sh (nt k), A4, A5]⟩) rfl]
        rfl
      · intro w hw
        rcases List.mem_append.mp hw with h | h
        · exact q3 w h
        · rw [List.mem_singleton.mp h]; exact ⟨writ_len v 16, writ_bt v 16⟩)
  refine ⟨ws, g', q1, q2, q3, lc_go (rng_go (n := many / 16 + 1) (s1 := ⟨[.le (bq g), .sh (nt many), A2, .no, A4, A5]⟩) ?_ (by omega)) rfl h⟩
  obtain ⟨t, ht⟩ : ∃ t, t = many / 16 := ⟨_, rfl⟩
  have f : ((many : Int)).fdiv 16 = (t : Int) := by rw [ht]; exact div_nat many 16
  rw [← ht]
  simp [op2_some, ev_cst, ev_var, ev_bin, ev_neg, ev_not, ev_and, ev_or, ev_cmp, ev_chn, ev_isN, ev_notN, ev_ife, ev_tup, ev_lst, ev_idx, ev_slc, ev_call, ev_blt, ev_met, ev_joi, ev_lc, ev_isi, tst_eq, evI_eq, evs_nil, evs_cons, evF_nil, evF_cons, evo_no, evo_so, xs_asg, xs_asgT, xs_par, xs_sub, xs_exp, xs_ret, xs_retN, xs_if, xs_for, xs_whl, xs_brk, xs_rse, xs_cnt, xs_pas, xss_nil, xss_cons, itK_seq, itK_rng1, itK_rng2, itK_rng3, itK_enm, itK_zip, bind_ok, bind_bad, of_ok, fbind_nx, fbind_rt, fbind_bk, fbind_ct, ofO_some, ofS_some, cnt_v, cnt_o, cnt_b, cntS_eq, frz_v, frz_o, frz_b, fr_no, fr_sh, fr_ow, fr_le, fr_lf, fr_lk, putS_fr, mutS_eq, SZ, idxV, slcV, metV, mokV, mok, inS, isiV, joiV, idxR, ixN_nat, ixN_num, binR, addR, mulR, intR, cmpR, D.tr, CM, opd, slcR, bltR, metR, hand, lent, dist, back, cnts, asgT, asgTs, D.eqv, eqvL, D.pl, plL, D.dep, depL, lockO, itemsOf, unlock, freeS, wipeS, restS, D.flat, f]
theorem any_run (many : Nat) (hm : many ≤ 100000) (g : B4) (hg : g.ok) : ∃ (bs : List Nat) (g' : B4), g'.ok ∧ bs.length = many ∧ Bt bs ∧
    runDf ⟨2, 6, anyBody tk wr⟩ cf [.le (bq g), .sh (nt many)] = .ok (.v (.str bs)) [.le (bq g'), .sh (nt many)] := by
  obtain ⟨way, g1, w1, w2, w3⟩ := take_le ht (e := .cst (.int 6)) (m := 6) (v := 0) (l := [.le (bq g), .sh (nt many), .no, .no, .no, .no]) (l' := [.le (bq g), .sh (nt many), .no, .no, .no, .no]) hg rfl rfl rfl (by decide) (by decide)
  have st1 := asg_v (i := 2) w3 (x := .no) rfl rfl
  have st1 : xs cf (.asg (.var 2) (.call tk (.cons (.var 0) (.cons (.cst (.int 6)) .nil)))) ⟨[.le (bq g), .sh (nt many), .no, .no, .no, .no]⟩ = .nx ⟨[.le (bq g1), .sh (nt many), .sh (nt way), .no, .no, .no]⟩ := st1
  have c2 : ∀ (h : Bool), (decide ((way : Int) < 3) = h) → tst (ev cf (.cmp .lt (.var 2) (.cst (.int 3)))) ⟨[.le (bq g1), .sh (nt many), .sh (nt way), .no, .no, .no]⟩ = .ok h ⟨[.le (bq g1), .sh (nt many), .sh (nt way), .no, .no, .no]⟩ := fun h e => by simp only [op2_some, ev_cst, ev_var, ev_bin, ev_neg, ev_not, ev_and, ev_or, ev_cmp, ev_chn, ev_isN, ev_notN, ev_ife, ev_tup, ev_lst, ev_idx, ev_slc, ev_call, ev_blt, ev_met, ev_joi, ev_lc, ev_isi, tst_eq, evI_eq, evs_nil, evs_cons, evF_nil, evF_cons, evo_no, evo_so, xs_asg, xs_asgT, xs_par, xs_sub, xs_exp, xs_ret, xs_retN, xs_if, xs_for, xs_whl, xs_brk, xs_rse, xs_cnt, xs_pas, xss_nil, xss_cons, itK_seq, itK_rng1, itK_rng2, itK_rng3, itK_enm, itK_zip, bind_ok, bind_bad, of_ok, fbind_nx, fbind_rt, fbind_bk, fbind_ct, ofO_some, ofS_some, cnt_v, cnt_o, cnt_b, cntS_eq, frz_v, frz_o, frz_b, fr_no, fr_sh, fr_ow, fr_le, fr_lf, fr_lk, putS_fr, mutS_eq, SZ, idxV, slcV, metV, mokV, mok, inS, isiV, joiV, idxR, ixN_nat, ixN_num, binR, addR, mulR, intR, cmpR, D.tr, CM, opd, slcR, bltR, metR, hand, lent, dist, back, cnts, asgT, asgTs, D.eqv, eqvL, D.pl, plL, D.dep, depL, lockO, itemsOf, unlock, freeS, wipeS, restS, D.flat, ← e]; rfl
  have c3 : ∀ (h : Bool), (((way : Int) == 3) = h) → tst (ev cf (.cmp .eq (.var 2) (.cst (.int 3)))) ⟨[.le (bq g1), .sh (nt many), .sh (nt way), .no, .no, .no]⟩ = .ok h ⟨[.le (bq g1), .sh (nt many), .sh (nt way), .no, .no, .no]⟩ := fun h e => by rw [← e]; simp [op2_some, ev_cst, ev_var, ev_bin, ev_neg, ev_not, ev_and, ev_or, ev_cmp, ev_chn, ev_isN, ev_notN, ev_ife, ev_tup, ev_lst, ev_idx, ev_slc, ev_call, ev_blt, ev_met, ev_joi, ev_lc, ev_isi, tst_eq, evI_eq, evs_nil, evs_cons, evF_nil, evF_cons, evo_no, evo_so, xs_asg, xs_asgT, xs_par, xs_sub, xs_exp, xs_ret, xs_retN, xs_if, xs_for, xs_whl, xs_brk, xs_rse, xs_cnt, xs_pas, xss_nil, xss_cons, itK_seq, itK_rng1, itK_rng2, itK_rng3, itK_enm, itK_zip, bind_ok, bind_bad, of_ok, fbind_nx, fbind_rt, fbind_bk, fbind_ct, ofO_some, ofS_some, cnt_v, cnt_o, cnt_b, cntS_eq, frz_v, frz_o, frz_b, fr_no, fr_sh, fr_ow, fr_le, fr_lf, fr_lk, putS_fr, mutS_eq, SZ, idxV, slcV, metV, mokV, mok, inS, isiV, joiV, idxR, ixN_nat, ixN_num, binR, addR, mulR, intR, cmpR, D.tr, CM, opd, slcR, bltR, metR, hand, lent, dist, back, cnts, asgT, asgTs, D.eqv, eqvL, D.pl, plL, D.dep, depL, lockO, itemsOf, unlock, freeS, wipeS, restS, D.flat]
  by_cases hw3 : way < 3
  · obtain ⟨ws, g2, q1, q2, q3, q4⟩ := any_lc ht hw many hm g1 w2 (.sh (nt way)) .no .no
    have hlen : ∀ ws : List (List Nat), (∀ w ∈ ws, w.length = 16 ∧ Bt w) → (ws.map List.length).sum = 16 * ws.length ∧ ws.flatten.length = 16 * ws.length ∧ Bt ws.flatten := by
      intro ws
      induction ws with
      | nil => intro _; exact ⟨rfl, rfl, fun c h => by cases h⟩
      | cons w ws ih =>
        intro h
        obtain ⟨i1, i2, i3⟩ := ih fun v hv => h v (List.mem_cons_of_mem _ hv)
        obtain ⟨j1, j2⟩ := h w (List.mem_cons_self ..)
        refine ⟨?_, ?_, ?_⟩
        · rw [List.map_cons, List.sum_cons, List.length_cons, i1, j1]; omega
        · rw [List.flatten_cons, List.length_append, List.length_cons, i2, j1]; omega
        · rw [List.flatten_cons]; exact j2.app i3
    obtain ⟨s1, s2, s3⟩ := hlen ws q3
    have hj := join_wsF (evF_o q4) (by omega)
    refine ⟨ws.flatten.take many, g2, q1, by rw [List.length_take, s2, q2]; omega, s3.take many, run_v (s := ⟨[.le (bq g2), .sh (nt many), .sh (nt way), .no, .no, .no]⟩) ⟨rfl, (show 2 ≤ 6 from by decide)⟩ (xss_go st1 ?_) rfl rfl⟩
    have : xs cf (.iff (.cmp .lt (.var 2) (.cst (.int 3))) (.cons (.ret (.slc (.met .join (.cst (.str [])) (.cons (anyE tk wr) .nil)) .no (.so (.var 1)))) .nil) .nil) ⟨[.le (bq g1), .sh (nt many), .sh (nt way), .no, .no, .no]⟩ = .rt (.v (.str (ws.flatten.take many))) ⟨[.le (bq g2), .sh (nt many), .sh (nt way), .no, .no, .no]⟩ := by
      refine if_t (c2 true (by simp; omega)) ?_
      have z1 : ws.flatten.length ≤ 16777216 := by omega
      have z2 := cut_to ws.flatten many
      generalize (Ex.met .join (.cst (.str [])) (.cons (anyE tk wr) .nil)) = E at hj ⊢
      generalize ws.flatten = W at *
      simp [op2_some, ev_cst, ev_var, ev_bin, ev_neg, ev_not, ev_and, ev_or, ev_cmp, ev_chn, ev_isN, ev_notN, ev_ife, ev_tup, ev_lst, ev_idx, ev_slc, ev_call, ev_blt, ev_met, ev_joi, ev_lc, ev_isi, tst_eq, evI_eq, evs_nil, evs_cons, evF_nil, evF_cons, evo_no, evo_so, xs_asg, xs_asgT, xs_par, xs_sub, xs_exp, xs_ret, xs_retN, xs_if, xs_for, xs_whl, xs_brk, xs_rse, xs_cnt, xs_pas, xss_nil, xss_cons, itK_seq, itK_rng1, itK_rng2, itK_rng3, itK_enm, itK_zip, bind_ok, bind_bad, of_ok, fbind_nx, fbind_rt, fbind_bk, fbind_ct, ofO_some, ofS_some, cnt_v, cnt_o, cnt_b, cntS_eq, frz_v, frz_o, frz_b, fr_no, fr_sh, fr_ow, fr_le, fr_lf, fr_lk, putS_fr, mutS_eq, SZ, idxV, slcV, metV, mokV, mok, inS, isiV, joiV, idxR, ixN_nat, ixN_num, binR, addR, mulR, intR, cmpR, D.tr, CM, opd, slcR, bltR, metR, hand, lent, dist, back, cnts, asgT, asgTs, D.eqv, eqvL, D.pl, plL, D.dep, depL, lockO, itemsOf, unlock, freeS, wipeS, restS, D.flat, hj, z1, z2]
    show (xs cf (.iff _ _ _) _).bind _ = _
    rw [this]; rfl
  have if2 : xs cf (.iff (.cmp .lt (.var 2) (.cst (.int 3))) (.cons (.ret (.slc (.met .join (.cst (.str [])) (.cons (anyE tk wr) .nil)) .no (.so (.var 1)))) .nil) .nil) ⟨[.le (bq g1), .sh (nt many), .sh (nt way), .no, .no, .no]⟩ = .nx ⟨[.le (bq g1), .sh (nt many), .sh (nt way), .no, .no, .no]⟩ := if_f (c2 false (by simp; omega)) rfl
  by_cases hw4 : way = 3
  · obtain ⟨v, g2, v1, v2, v3⟩ := take_le ht (e := .cst (.int 256)) (m := 256) (v := 0) (l := [.le (bq g1), .sh (nt many), .sh (nt way), .no, .no, .no]) (l' := [.le (bq g1), .sh (nt many), .sh (nt way), .no, .no, .no]) w2 rfl rfl rfl (by decide) (by decide)
    have h8 := hw v 8 (by decide)
    have hc := call_v (rs := [.v (nt v), .v (nt 8)]) (s1 := ⟨[.le (bq g2), .sh (nt many), .sh (nt way), .no, .no, .no]⟩) (evs_go v3 (evs_go (r := .v (nt 8)) (e := .cst (.int 8)) (es := .nil) rfl rfl)) rfl rfl h8 (s2 := ⟨[.le (bq g2), .sh (nt many), .sh (nt way), .no, .no, .no]⟩) rfl
    obtain ⟨k, hk⟩ : ∃ k, k = many / 8 := ⟨_, rfl⟩
    have f : ((many : Int)).fdiv 8 = (k : Int) := by rw [hk]; exact div_nat many 8
    have lw : (writ v 8).length = 8 := writ_len v 8
    have bw : Bt (writ v 8) := writ_bt v 8
    obtain ⟨W, hW⟩ : ∃ W, W = rep (k + 1) (writ v 8) := ⟨_, rfl⟩
    have lW : W.length = (k + 1) * 8 := by rw [hW]; unfold rep; simp [lw]
    have bW : Bt W := by
      rw [hW]; unfold rep
      intro c hc
      obtain ⟨l, h1, h2⟩ := List.mem_flatten.mp hc
      obtain ⟨_, rfl⟩ := List.mem_replicate.mp h1
      exact bw c h2
    refine ⟨W.take many, g2, v2, by rw [List.length_take, lW]; omega, bW.take many, run_v (s := ⟨[.le (bq g2), .sh (nt many), .sh (nt way), .no, .no, .no]⟩) ⟨rfl, (show 2 ≤ 6 from by decide)⟩ (xss_go st1 (xss_go if2 ?_)) rfl rfl⟩
    have : xs cf (.iff (.cmp .eq (.var 2) (.cst (.int 3))) (.cons (.ret (.slc (.bin .mul (.call wr (.cons (.call tk (.cons (.var 0) (.cons (.cst (.int 256)) .nil))) (.cons (.cst (.int 8)) .nil))) (.bin .add (.bin .fdiv (.var 1) (.cst (.int 8))) (.cst (.int 1)))) .no (.so (.var 1)))) .nil) .nil) ⟨[.le (bq g1), .sh (nt many), .sh (nt way), .no, .no, .no]⟩ = .rt (.v (.str (W.take many))) ⟨[.le (bq g2), .sh (nt many), .sh (nt way), .no, .no, .no]⟩ := by
      refine if_t (c3 true (by rw [hw4]; rfl)) ?_
      have z0 : 8 * (k + 1) ≤ 16777216 := by omega
      have z1 : W.length ≤ 16777216 := by omega
      have z2 := cut_to W many
      have z3 : ((k : Int) + 1).toNat = k + 1 := by omega
      have k1 : okI ((k : Int) + 1) = true := okI_nat (n := k + 1) (by omega)
      generalize (Ex.call wr (.cons (.call tk (.cons (.var 0) (.cons (.cst (.int 256)) .nil))) (.cons (.cst (.int 8)) .nil))) = E at hc ⊢
      simp only [nt] at hc ⊢
      generalize writ v 8 = w8 at *
      simp [op2_some, ev_cst, ev_var, ev_bin, ev_neg, ev_not, ev_and, ev_or, ev_cmp, ev_chn, ev_isN, ev_notN, ev_ife, ev_tup, ev_lst, ev_idx, ev_slc, ev_call, ev_blt, ev_met, ev_joi, ev_lc, ev_isi, tst_eq, evI_eq, evs_nil, evs_cons, evF_nil, evF_cons, evo_no, evo_so, xs_asg, xs_asgT, xs_par, xs_sub, xs_exp, xs_ret, xs_retN, xs_if, xs_for, xs_whl, xs_brk, xs_rse, xs_cnt, xs_pas, xss_nil, xss_cons, itK_seq, itK_rng1, itK_rng2, itK_rng3, itK_enm, itK_zip, bind_ok, bind_bad, of_ok, fbind_nx, fbind_rt, fbind_bk, fbind_ct, ofO_some, ofS_some, cnt_v, cnt_o, cnt_b, cntS_eq, frz_v, frz_o, frz_b, fr_no, fr_sh, fr_ow, fr_le, fr_lf, fr_lk, putS_fr, mutS_eq, SZ, idxV, slcV, metV, mokV, mok, inS, isiV, joiV, idxR, ixN_nat, ixN_num, binR, addR, mulR, intR, cmpR, D.tr, CM, opd, slcR, bltR, metR, hand, lent, dist, back, cnts, asgT, asgTs, D.eqv, eqvL, D.pl, plL, D.dep, depL, lockO, itemsOf, unlock, freeS, wipeS, restS, D.flat, hc, f, k1, z3, z0, z1, z2, lw, ← hW]
    show (xs cf (.iff _ _ _) _).bind _ = _
    rw [this]; rfl
  have if3 : xs cf (.iff (.cmp .eq (.var 2) (.cst (.int 3))) (.cons (.ret (.slc (.bin .mul (.call wr (.cons (.call tk (.cons (.var 0) (.cons (.cst (.int 256)) .nil))) (.cons (.cst (.int 8)) .nil))) (.bin .add (.bin .fdiv (.var 1) (.cst (.int 8))) (.cst (.int 1)))) .no (.so (.var 1)))) .nil) .nil) ⟨[.le (bq g1), .sh (nt many), .sh (nt way), .no, .no, .no]⟩ = .nx ⟨[.le (bq g1), .sh (nt many), .sh (nt way), .no, .no, .no]⟩ := if_f (c3 false (by simp; omega)) rfl
  -- one colour but for some
  obtain ⟨c1, c2', hc1, hc2, e1, e2⟩ : ∃ c1 c2 : Nat, (c1 = 48 ∨ c1 = 49) ∧ (c2 = 48 ∨ c2 = 49) ∧ idxR (.str [49, 48]) (.int ((way : Int) - 4)) = some (.str [c1]) ∧ idxR (.str [48, 49]) (.int ((way : Int) - 4)) = some (.str [c2]) := by
    have : way = 4 ∨ way = 5 := by omega
    rcases this with rfl | rfl
    · exact ⟨49, 48, .inr rfl, .inl rfl, rfl, rfl⟩
    · exact ⟨48, 49, .inl rfl, .inr rfl, rfl, rfl⟩
  have k1 : okI (many : Int) = true := okI_nat (by omega)
  have z1 : many ≤ 16777216 := by omega
  have z5 : many < 18446744073709551616 := by omega
  have st4 : xs cf (.asg (.var 4) (.bin .mul (.idx (.cst (.str [49, 48])) (.bin .sub (.var 2) (.cst (.int 4)))) (.var 1))) ⟨[.le (bq g1), .sh (nt many), .sh (nt way), .no, .no, .no]⟩ = .nx ⟨[.le (bq g1), .sh (nt many), .sh (nt way), .no, .sh (.str (List.replicate many c1)), .no]⟩ := by
    refine asg_v (l := [.le (bq g1), .sh (nt many), .sh (nt way), .no, .no, .no]) (x := .no) (bin_go (idx_go (rfl : ev cf (.cst (.str [49, 48])) _ = _) (rfl : ev cf (.bin .sub (.var 2) (.cst (.int 4))) ⟨[.le (bq g1), .sh (nt many), .sh (nt way), .no, .no, .no]⟩ = .ok (.v (.int ((way : Int) - 4))) ⟨[.le (bq g1), .sh (nt many), .sh (nt way), .no, .no, .no]⟩) rfl rfl e1) (rfl : ev cf (.var 1) ⟨[.le (bq g1), .sh (nt many), .sh (nt way), .no, .no, .no]⟩ = .ok (.v (nt many)) ⟨[.le (bq g1), .sh (nt many), .sh (nt way), .no, .no, .no]⟩) rfl rfl ?_) rfl rfl
    simp [binR, mulR, k1, z1, rep_one]
  obtain ⟨v, g2, v1, v2, v3⟩ := take_le ht (e := .cst (.int 4)) (m := 4) (v := 0) (l := [.le (bq g1), .sh (nt many), .sh (nt way), .no, .sh (.str (List.replicate many c1)), .no]) (l' := [.le (bq g1), .sh (nt many), .sh (nt way), .no, .sh (.str (List.replicate many c1)), .no]) w2 rfl rfl rfl (by decide) (by decide)
  obtain ⟨N, hN, hN2, eN⟩ : ∃ N : Nat, N ≤ 3 ∧ (0 < N → 0 < many) ∧ evs cf (.cons (.bin .mul (.call tk (.cons (.var 0) (.cons (.cst (.int 4)) .nil))) (.blt .int (.cons (.cmp .gt (.var 1) (.cst (.int 0))) .nil))) .nil) ⟨[.le (bq g1), .sh (nt many), .sh (nt way), .no, .sh (.str (List.replicate many c1)), .no]⟩ = .ok [.v (.int (N : Int))] ⟨[.le (bq g2), .sh (nt many), .sh (nt way), .no, .sh (.str (List.replicate many c1)), .no]⟩ := by
    generalize (Ex.call tk (.cons (.var 0) (.cons (.cst (.int 4)) .nil))) = E at v3 ⊢
    simp only [nt, List.set] at v3 ⊢
    by_cases h : 0 < many
    · exact ⟨v, by omega, fun _ => h, by simp [op2_some, ev_cst, ev_var, ev_bin, ev_neg, ev_not, ev_and, ev_or, ev_cmp, ev_chn, ev_isN, ev_notN, ev_ife, ev_tup, ev_lst, ev_idx, ev_slc, ev_call, ev_blt, ev_met, ev_joi, ev_lc, ev_isi, tst_eq, evI_eq, evs_nil, evs_cons, evF_nil, evF_cons, evo_no, evo_so, xs_asg, xs_asgT, xs_par, xs_sub, xs_exp, xs_ret, xs_retN, xs_if, xs_for, xs_whl, xs_brk, xs_rse, xs_cnt, xs_pas, xss_nil, xss_cons, itK_seq, itK_rng1, itK_rng2, itK_rng3, itK_enm, itK_zip, bind_ok, bind_bad, of_ok, fbind_nx, fbind_rt, fbind_bk, fbind_ct, ofO_some, ofS_some, cnt_v, cnt_o, cnt_b, cntS_eq, frz_v, frz_o, frz_b, fr_no, fr_sh, fr_ow, fr_le, fr_lf, fr_lk, putS_fr, mutS_eq, SZ, idxV, slcV, metV, mokV, mok, inS, isiV, joiV, idxR, ixN_nat, ixN_num, binR, addR, mulR, intR, cmpR, D.tr, CM, opd, slcR, bltR, metR, hand, lent, dist, back, cnts, asgT, asgTs, D.eqv, eqvL, D.pl, plL, D.dep, depL, lockO, itemsOf, unlock, freeS, wipeS, restS, D.flat, v3, h]⟩
    · exact ⟨0, by omega, fun h0 => absurd h0 (by omega), by simp [op2_some, ev_cst, ev_var, ev_bin, ev_neg, ev_not, ev_and, ev_or, ev_cmp, ev_chn, ev_isN, ev_notN, ev_ife, ev_tup, ev_lst, ev_idx, ev_slc, ev_call, ev_blt, ev_met, ev_joi, ev_lc, ev_isi, tst_eq, evI_eq, evs_nil, evs_cons, evF_nil, evF_cons, evo_no, evo_so, xs_asg, xs_asgT, xs_par, xs_sub, xs_exp, xs_ret, xs_retN, xs_if, xs_for, xs_whl, xs_brk, xs_rse, xs_cnt, xs_pas, xss_nil, xss_cons, itK_seq, itK_rng1, itK_rng2, itK_rng3, itK_enm, itK_zip, bind_ok, bind_bad, of_ok, fbind_nx, fbind_rt, fbind_bk, fbind_ct, ofO_some, ofS_some, cnt_v, cnt_o, cnt_b, cntS_eq, frz_v, frz_o, frz_b, fr_no, fr_sh, fr_ow, fr_le, fr_lf, fr_lk, putS_fr, mutS_eq, SZ, idxV, slcV, metV, mokV, mok, inS, isiV, joiV, idxR, ixN_nat, ixN_num, binR, addR, mulR, intR, cmpR, D.tr, CM, opd, slcR, bltR, metR, hand, lent, dist, back, cnts, asgT, asgTs, D.eqv, eqvL, D.pl, plL, D.dep, depL, lockO, itemsOf, unlock, freeS, wipeS, restS, D.flat, v3, h]⟩
  obtain ⟨s', ⟨g3, bs, x3, x5, f3, f5, h3, hl, hB, rfl⟩, hf⟩ := forL_rng (t := .var 3) (lk := []) (n := N) (fb := xss cf (oneB tk)) (s := ⟨[.le (bq g2), .sh (nt many), .sh (nt way), .no, .sh (.str (List.replicate many c1)), .no]⟩)
    (fun j s => ∃ (g : B4) (bs : List Nat) (x3 x5 : Slot), fr x3 = true ∧ fr x5 = true ∧ g.ok ∧ bs.length = many ∧ Bt bs ∧ s = ⟨[.le (bq g), .sh (nt many), .sh (nt way), x3, .sh (.str bs), x5]⟩) ⟨g2, _, .no, .no, rfl, rfl, v2, List.length_replicate .., Bt.rep many hc1, rfl⟩ (fun j s hj ⟨g, bs, x3, x5, f3, f5, h3, hl, hB, e⟩ => by
      subst e
      have hm0 : 0 < many := hN2 (by omega)
      obtain ⟨p, g', p1, p2, p3⟩ := take_le ht (e := .var 1) (m := many) (v := 0) (l := [.le (bq g), .sh (nt many), .sh (nt way), .sh (nt j), .sh (.str bs), x5]) (l' := [.le (bq g), .sh (nt many), .sh (nt way), .sh (nt j), .sh (.str bs), x5]) h3 rfl rfl rfl hm0 (by omega)
      refine ⟨_, _, putS_at (x := x3) rfl f3, .inl (xss_go (asg_v p3 (x := x5) rfl f5) (xss_go (s1 := ⟨[.le (bq g'), .sh (nt many), .sh (nt way), .sh (nt j), .sh (.str (bs.take p ++ ([c2'] ++ bs.drop (p + 1)))), .sh (nt p)]⟩) ?_ rfl)), g', _, .sh (nt j), .sh (nt p), rfl, rfl, p2, ?_, ?_, rfl⟩
      · have ix : ∀ cf', ev cf' (.idx (.cst (.str [48, 49])) (.bin .sub (.var 2) (.cst (.int 4)))) ⟨[.le (bq g'), .sh (nt many), .sh (nt way), .sh (nt j), .sh (.str bs), .sh (nt p)]⟩ = .ok (.v (.str [c2'])) ⟨[.le (bq g'), .sh (nt many), .sh (nt way), .sh (nt j), .sh (.str bs), .sh (nt p)]⟩ := fun cf' => idx_go rfl (rfl : ev cf' (.bin .sub (.var 2) (.cst (.int 4))) _ = .ok (.v (.int ((way : Int) - 4))) _) rfl rfl e2
        have ix := ix cf
        generalize (Ex.idx (.cst (.str [48, 49])) (.bin .sub (.var 2) (.cst (.int 4)))) = E at ix ⊢
        have q1 := cut_to bs p
        have q2 := cut_from1 bs p
        have y1 : bs.length ≤ 16777216 := by omega
        have y2 : min p bs.length + 1 ≤ 16777216 := by omega
        have y3 : min p bs.length + 1 + (bs.length - (p + 1)) ≤ 16777216 := by omega
        have y4 : min p bs.length ≤ 16777215 := by omega
        show xs cf _ ⟨[.le (bq g'), .sh (nt many), .sh (nt way), .sh (nt j), .sh (.str bs), .sh (nt p)]⟩ = _
        simp only [nt] at ix ⊢
        simp [op2_some, ev_cst, ev_var, ev_bin, ev_neg, ev_not, ev_and, ev_or, ev_cmp, ev_chn, ev_isN, ev_notN, ev_ife, ev_tup, ev_lst, ev_idx, ev_slc, ev_call, ev_blt, ev_met, ev_joi, ev_lc, ev_isi, tst_eq, evI_eq, evs_nil, evs_cons, evF_nil, evF_cons, evo_no, evo_so, xs_asg, xs_asgT, xs_par, xs_sub, xs_exp, xs_ret, xs_retN, xs_if, xs_for, xs_whl, xs_brk, xs_rse, xs_cnt, xs_pas, xss_nil, xss_cons, itK_seq, itK_rng1, itK_rng2, itK_rng3, itK_enm, itK_zip, bind_ok, bind_bad, of_ok, fbind_nx, fbind_rt, fbind_bk, fbind_ct, ofO_some, ofS_some, cnt_v, cnt_o, cnt_b, cntS_eq, frz_v, frz_o, frz_b, fr_no, fr_sh, fr_ow, fr_le, fr_lf, fr_lk, putS_fr, mutS_eq, SZ, idxV, slcV, metV, mokV, mok, inS, isiV, joiV, idxR, ixN_nat, ixN_num, binR, addR, mulR, intR, cmpR, D.tr, CM, opd, slcR, bltR, metR, hand, lent, dist, back, cnts, asgT, asgTs, D.eqv, eqvL, D.pl, plL, D.dep, depL, lockO, itemsOf, unlock, freeS, wipeS, restS, D.flat, ix, q1, q2, y1, y2, y3, y4]
      · simp; omega
      · exact (hB.take p).app (Bt.app (fun c hc => by rw [List.mem_singleton.mp hc]; exact hc2) (hB.drop _)))
  refine ⟨bs, g3, h3, hl, hB, run_v (s := ⟨[.le (bq g3), .sh (nt many), .sh (nt way), x3, .sh (.str bs), x5]⟩) ⟨rfl, (show 2 ≤ 6 from by decide)⟩ (xss_go st1 (xss_go if2 (xss_go if3 (xss_go st4 (xss_go (for_go (rng_go eN (by omega)) hf) rfl))))) rfl rfl⟩
end
theorem all_true {α : Type} (l : List α) : (blsOf (l.map fun _ => D.bl true)).map (fun bs => Rv.v (.bl (bs.all id))) = some (.v (.bl true)) := by
  rw [blsOf_map (fun _ => true)]
  simp
theorem law_goK {P : List Df} {n L nn lo cap : Nat} {B : Ss} {ns : List Int} (hP : P[L]? = some ⟨1, nn + 2, .cons (.fors (.var 1) .rng1 (.cons (.blt .max2 (.cons (.cst (.int (lo : Int))) (.cons (.blt .min2 (.cons (.cst (.int (cap : Int))) (.cons (.blt .len (.cons (.var 0) .nil)) .nil))) .nil))) .nil) B) (.cons (.ret (.cst (.bl true))) .nil)⟩)
    (hlo : lo ≤ 1000) (hcap : cap ≤ 1000) (J : List Slot → Prop) (hJ : ∀ l, J l → l.length = nn) (h0 : J (List.replicate nn .no))
    (step : ∀ (k : Nat) (l : List Slot), k < 1000 → J l → ∃ l', J l' ∧ xss (call P n) B ⟨.sh (.scr ns) :: .sh (.int (k : Int)) :: l⟩ = .nx ⟨.sh (.scr ns) :: .sh (.int (k : Int)) :: l'⟩) : ∃ es, call P (n + 1) L [.sh (.scr ns)] = .ok (.v (.bl true)) es := by
  obtain ⟨s', ⟨x1, l, f1, hl, rfl⟩, hf⟩ := forL_rng (t := .var 1) (lk := []) (n := max lo (min cap ns.length)) (fb := xss (call P n) B) (s := ⟨.sh (.scr ns) :: .no :: List.replicate nn .no⟩)
    (fun k s => ∃ x1 l, fr x1 = true ∧ J l ∧ s = ⟨.sh (.scr ns) :: x1 :: l⟩) ⟨.no, _, rfl, h0, rfl⟩ (fun k s hk ⟨x1, l, f1, hl, e⟩ => by
      subst e
      obtain ⟨l', h1, h2⟩ := step k l (by omega) hl
      exact ⟨_, _, putS_at (x := x1) rfl f1, .inl h2, _, l', rfl, h1, rfl⟩)
  refine ⟨[.sh (.scr ns)], ?_⟩
  rw [call_df hP]
  refine run_v (s := ⟨.sh (.scr ns) :: x1 :: l⟩) ⟨rfl, by show 1 ≤ nn + 2; omega⟩ ?_ (by show (l.length + 1) + 1 = nn + 2; rw [hJ l hl]) rfl
  exact xss_go (for_go (rng_go (many_go _ lo cap ns _) (by omega)) hf) rfl
end Z

/-! Z: the words of runs. -/
namespace Z
def sT (s : String) : List Nat := s.toList.map Char.toNat
def LW : List (List Nat) := [[48, 49, 49, 48, 48, 49], [49, 49, 49, 49], [49, 49, 49, 48], [49, 49, 48, 49], [49, 49, 48, 48], [49, 48, 49, 49], [49, 48, 48, 48, 49], [49, 48, 48, 48, 48], [48, 49, 49, 49, 49], [48, 49, 49, 49, 48], [48, 49, 49, 48, 48, 48], [48, 49, 48, 49, 49, 49], [48, 49, 48, 49, 49, 48], [48, 49, 48, 49, 48, 49], [48, 49, 48, 49, 48, 48], [48, 49, 48, 48, 49, 49], [49, 48, 49, 48], [48, 49, 49, 48, 49], [48, 49, 48, 48, 49, 48], [49, 48, 48, 49]]
def DW : List (List Nat) := [[48, 48, 49, 49, 48, 49, 49], [49, 49], [49, 48, 49], [49, 48, 48], [48, 49, 49, 49], [48, 49, 49, 48], [48, 49, 48, 49, 49], [48, 49, 48, 49, 48], [48, 49, 48, 48, 49], [48, 49, 48, 48, 48, 49], [48, 49, 48, 48, 48, 48], [48, 48, 49, 49, 49, 49], [48, 48, 49, 49, 48, 49, 48], [48, 48, 49, 49, 48, 48, 49], [48, 48, 49, 49, 48, 48, 48], [48, 48, 49, 48, 49, 49, 49], [48, 48, 49, 49, 49, 48], [48, 48, 49, 48, 49, 49, 48], [48, 48, 49, 48, 49, 48, 49], [48, 48, 49, 48, 49, 48, 48]]
def StW : List (List Nat) := [[49], [48, 49, 49], [48, 49, 48], [48, 48, 49], [48, 48, 48, 49, 49], [48, 48, 48, 49, 48], [48, 48, 48, 48, 49, 49], [48, 48, 48, 48, 49, 48], [48, 48, 48, 48, 48, 49]]
def wds (c : Nat) : List (List Nat) := if c = 46 then LW else DW
theorem wds_len (c : Nat) : (wds c).length = 20 := by unfold wds; split <;> rfl
def runW (c r : Nat) : List Nat := if r < 16 then (wds c).getD r [] else (wds c).getD (15 + r / 16) [] ++ (wds c).getD (r % 16) []
theorem wds_short (c i : Nat) : ((wds c).getD i []).length ≤ 7 := by
  have h1 : ∀ w ∈ LW, w.length ≤ 7 := by decide
  have h2 : ∀ w ∈ DW, w.length ≤ 7 := by decide
  rw [List.getD_eq_getElem?_getD]
  cases h : (wds c)[i]? with
  | none => exact Nat.zero_le _
  | some w =>
    have hm := List.mem_of_getElem? h
    unfold wds at hm
    split at hm
    · exact h1 w hm
    · exact h2 w hm
theorem runW_len (c r : Nat) : (runW c r).length ≤ 14 := by
  unfold runW
  split
  · have := wds_short c r; omega
  · have := wds_short c (15 + r / 16)
    have := wds_short c (r % 16)
    rw [List.length_append]; omega
theorem idx_tupW (W : List (List Nat)) (i : Nat) (h : i < W.length) : idxR (.tup (W.map .str)) (.int (i : Int)) = some (.str (W.getD i [])) := by
  show (ixN (W.map D.str).length (i : Int)).bind (fun k => (W.map D.str)[k]?) = _
  rw [ixN_nat, if_pos (by rw [List.length_map]; exact h)]
  show (W.map D.str)[i]? = _
  rw [List.getElem?_map, List.getD_eq_getElem?_getD, List.getElem?_eq_getElem h]; rfl
theorem idx_lstW (W : List (List Nat)) (i : Nat) (h : i < W.length) : idxR (.lst (W.map .str)) (.int (i : Int)) = some (.str (W.getD i [])) := idx_tupW W i h
def wordsOfBody : Ss :=
  (.cons (.iff (.cmp .eq (.var 0) (.cst (.str [46]))) (.cons (.ret (.cst (.tup (LW.map .str))))
  .nil) .nil)
  (.cons (.ret (.cst (.tup (DW.map .str))))
  .nil))
theorem wordsOf_run (cf : Nat → List Slot → Co) (c : Nat) : runDf ⟨1, 1, wordsOfBody⟩ cf [.sh (ch c)] = .ok (.v (.tup ((wds c).map .str))) [.sh (ch c)] := by
  unfold wds
  generalize hl : LW = a
  generalize hd : DW = b
  by_cases h : c = 46
  · subst h; simp [runDf, start, endR, wordsOfBody, op2_some, ev_cst, ev_var, ev_bin, ev_neg, ev_not, ev_and, ev_or, ev_cmp, ev_chn, ev_isN, ev_notN, ev_ife, ev_tup, ev_lst, ev_idx, ev_slc, ev_call, ev_blt, ev_met, ev_joi, ev_lc, ev_isi, tst_eq, evI_eq, evs_nil, evs_cons, evF_nil, evF_cons, evo_no, evo_so, xs_asg, xs_asgT, xs_par, xs_sub, xs_exp, xs_ret, xs_retN, xs_if, xs_for, xs_whl, xs_brk, xs_rse, xs_cnt, xs_pas, xss_nil, xss_cons, itK_seq, itK_rng1, itK_rng2, itK_rng3, itK_enm, itK_zip, bind_ok, bind_bad, of_ok, fbind_nx, fbind_rt, fbind_bk, fbind_ct, ofO_some, ofS_some, cnt_v, cnt_o, cnt_b, cntS_eq, frz_v, frz_o, frz_b, fr_no, fr_sh, fr_ow, fr_le, fr_lf, fr_lk, putS_fr, mutS_eq, SZ, idxV, slcV, metV, mokV, mok, inS, isiV, joiV, idxR, ixN_nat, ixN_num, binR, addR, mulR, intR, cmpR, D.tr, CM, opd, slcR, bltR, metR, hand, lent, dist, back, cnts, asgT, asgTs, D.eqv, eqvL, D.pl, plL, D.dep, depL, lockO, itemsOf, unlock, freeS, wipeS, restS, D.flat, hl, hd]
  · simp [runDf, start, endR, wordsOfBody, op2_some, ev_cst, ev_var, ev_bin, ev_neg, ev_not, ev_and, ev_or, ev_cmp, ev_chn, ev_isN, ev_notN, ev_ife, ev_tup, ev_lst, ev_idx, ev_slc, ev_call, ev_blt, ev_met, ev_joi, ev_lc, ev_isi, tst_eq, evI_eq, evs_nil, evs_cons, evF_nil, evF_cons, evo_no, evo_so, xs_asg, xs_asgT, xs_par, xs_sub, xs_exp, xs_ret, xs_retN, xs_if, xs_for, xs_whl, xs_brk, xs_rse, xs_cnt, xs_pas, xss_nil, xss_cons, itK_seq, itK_rng1, itK_rng2, itK_rng3, itK_enm, itK_zip, bind_ok, bind_bad, of_ok, fbind_nx, fbind_rt, fbind_bk, fbind_ct, ofO_some, ofS_some, cnt_v, cnt_o, cnt_b, cntS_eq, frz_v, frz_o, frz_b, fr_no, fr_sh, fr_ow, fr_le, fr_lf, fr_lk, putS_fr, mutS_eq, SZ, idxV, slcV, metV, mokV, mok, inS, isiV, joiV, idxR, ixN_nat, ixN_num, binR, addR, mulR, intR, cmpR, D.tr, CM, opd, slcR, bltR, metR, hand, lent, dist, back, cnts, asgT, asgTs, D.eqv, eqvL, D.pl, plL, D.dep, depL, lockO, itemsOf, unlock, freeS, wipeS, restS, D.flat, hl, hd, h]
def runBitsBody (wi : Nat) : Ss :=
  (.cons (.asg (.var 2) (.call wi (.cons (.var 0) .nil)))
  (.cons (.iff (.cmp .lt (.var 1) (.cst (.int 16))) (.cons (.ret (.idx (.var 2) (.var 1)))
  .nil) .nil)
  (.cons (.ret (.bin .add (.idx (.var 2) (.bin .add (.bin .sub (.cst (.int 16)) (.cst (.int 1))) (.bin .fdiv (.var 1) (.cst (.int 16))))) (.idx (.var 2) (.bin .mod (.var 1) (.cst (.int 16))))))
  .nil)))
theorem runBits_run {cf : Nat → List Slot → Co} {wi : Nat} (c : Nat) (hw : cf wi [.sh (ch c)] = .ok (.v (.tup ((wds c).map .str))) [.sh (ch c)]) (r : Nat) (hr : r ≤ 64) :
    runDf ⟨2, 3, runBitsBody wi⟩ cf [.sh (ch c), .sh (nt r)] = .ok (.v (.str (runW c r))) [.sh (ch c), .sh (nt r)] := by
  have sh := wds_short c
  have hl := wds_len c
  have e1 := idx_tupW (wds c)
  unfold runW
  generalize wds c = W at *
  have st1 : xs cf (.asg (.var 2) (.call wi (.cons (.var 0) .nil))) ⟨[.sh (ch c), .sh (nt r), .no]⟩ = .nx ⟨[.sh (ch c), .sh (nt r), .sh (.tup (W.map .str))]⟩ := by
    simp [op2_some, ev_cst, ev_var, ev_bin, ev_neg, ev_not, ev_and, ev_or, ev_cmp, ev_chn, ev_isN, ev_notN, ev_ife, ev_tup, ev_lst, ev_idx, ev_slc, ev_call, ev_blt, ev_met, ev_joi, ev_lc, ev_isi, tst_eq, evI_eq, evs_nil, evs_cons, evF_nil, evF_cons, evo_no, evo_so, xs_asg, xs_asgT, xs_par, xs_sub, xs_exp, xs_ret, xs_retN, xs_if, xs_for, xs_whl, xs_brk, xs_rse, xs_cnt, xs_pas, xss_nil, xss_cons, itK_seq, itK_rng1, itK_rng2, itK_rng3, itK_enm, itK_zip, bind_ok, bind_bad, of_ok, fbind_nx, fbind_rt, fbind_bk, fbind_ct, ofO_some, ofS_some, cnt_v, cnt_o, cnt_b, cntS_eq, frz_v, frz_o, frz_b, fr_no, fr_sh, fr_ow, fr_le, fr_lf, fr_lk, putS_fr, mutS_eq, SZ, idxV, slcV, metV, mokV, mok, inS, isiV, joiV, idxR, ixN_nat, ixN_num, binR, addR, mulR, intR, cmpR, D.tr, CM, opd, slcR, bltR, metR, hand, lent, dist, back, cnts, asgT, asgTs, D.eqv, eqvL, D.pl, plL, D.dep, depL, lockO, itemsOf, unlock, freeS, wipeS, restS, D.flat, hw]
  by_cases h : r < 16
  · rw [if_pos h]
    have hx : ev cf (.idx (.var 2) (.var 1)) ⟨[.sh (ch c), .sh (nt r), .sh (.tup (W.map .str))]⟩ = .ok (.v (.str (W.getD r []))) ⟨[.sh (ch c), .sh (nt r), .sh (.tup (W.map .str))]⟩ := idx_go (rfl : ev cf (.var 2) _ = .ok (.v _) _) (rfl : ev cf (.var 1) _ = .ok (.v _) _) rfl rfl (e1 r (by omega))
    generalize W.getD r [] = w at *
    refine run_v (s := ⟨[.sh (ch c), .sh (nt r), .sh (.tup (W.map .str))]⟩) ⟨rfl, (show 2 ≤ 3 from by decide)⟩ (xss_go st1 ?_) rfl rfl
    generalize (Ex.idx (.var 2) (.var 1)) = E at hx ⊢
    have h' : (r : Int) < 16 := by omega
    simp [op2_some, ev_cst, ev_var, ev_bin, ev_neg, ev_not, ev_and, ev_or, ev_cmp, ev_chn, ev_isN, ev_notN, ev_ife, ev_tup, ev_lst, ev_idx, ev_slc, ev_call, ev_blt, ev_met, ev_joi, ev_lc, ev_isi, tst_eq, evI_eq, evs_nil, evs_cons, evF_nil, evF_cons, evo_no, evo_so, xs_asg, xs_asgT, xs_par, xs_sub, xs_exp, xs_ret, xs_retN, xs_if, xs_for, xs_whl, xs_brk, xs_rse, xs_cnt, xs_pas, xss_nil, xss_cons, itK_seq, itK_rng1, itK_rng2, itK_rng3, itK_enm, itK_zip, bind_ok, bind_bad, of_ok, fbind_nx, fbind_rt, fbind_bk, fbind_ct, ofO_some, ofS_some, cnt_v, cnt_o, cnt_b, cntS_eq, frz_v, frz_o, frz_b, fr_no, fr_sh, fr_ow, fr_le, fr_lf, fr_lk, putS_fr, mutS_eq, SZ, idxV, slcV, metV, mokV, mok, inS, isiV, joiV, idxR, ixN_nat, ixN_num, binR, addR, mulR, intR, cmpR, D.tr, CM, opd, slcR, bltR, metR, hand, lent, dist, back, cnts, asgT, asgTs, D.eqv, eqvL, D.pl, plL, D.dep, depL, lockO, itemsOf, unlock, freeS, wipeS, restS, D.flat, h', hx]
  · rw [if_neg h]
    obtain ⟨q, hq⟩ : ∃ q, q = r / 16 := ⟨_, rfl⟩
    obtain ⟨m, hm⟩ : ∃ m, m = r % 16 := ⟨_, rfl⟩
    have f1 : ((r : Int)).fdiv 16 = (q : Int) := by rw [hq]; exact div_nat r 16
    have f2 : ((r : Int)).fmod 16 = (m : Int) := by rw [hm, Int.fmod_eq_emod_of_nonneg _ (by decide)]; rfl
    have b1 := e1 (15 + q) (by omega)
    have b2 := e1 m (by omega)
    rw [← hq, ← hm] at *
    have p1 : ev cf (.bin .add (.bin .sub (.cst (.int 16)) (.cst (.int 1))) (.bin .fdiv (.var 1) (.cst (.int 16)))) ⟨[.sh (ch c), .sh (nt r), .sh (.tup (W.map .str))]⟩ = .ok (.v (nt (15 + q))) ⟨[.sh (ch c), .sh (nt r), .sh (.tup (W.map .str))]⟩ := by simp [op2_some, ev_cst, ev_var, ev_bin, ev_neg, ev_not, ev_and, ev_or, ev_cmp, ev_chn, ev_isN, ev_notN, ev_ife, ev_tup, ev_lst, ev_idx, ev_slc, ev_call, ev_blt, ev_met, ev_joi, ev_lc, ev_isi, tst_eq, evI_eq, evs_nil, evs_cons, evF_nil, evF_cons, evo_no, evo_so, xs_asg, xs_asgT, xs_par, xs_sub, xs_exp, xs_ret, xs_retN, xs_if, xs_for, xs_whl, xs_brk, xs_rse, xs_cnt, xs_pas, xss_nil, xss_cons, itK_seq, itK_rng1, itK_rng2, itK_rng3, itK_enm, itK_zip, bind_ok, bind_bad, of_ok, fbind_nx, fbind_rt, fbind_bk, fbind_ct, ofO_some, ofS_some, cnt_v, cnt_o, cnt_b, cntS_eq, frz_v, frz_o, frz_b, fr_no, fr_sh, fr_ow, fr_le, fr_lf, fr_lk, putS_fr, mutS_eq, SZ, idxV, slcV, metV, mokV, mok, inS, isiV, joiV, idxR, ixN_nat, ixN_num, binR, addR, mulR, intR, cmpR, D.tr, CM, opd, slcR, bltR, metR, hand, lent, dist, back, cnts, asgT, asgTs, D.eqv, eqvL, D.pl, plL, D.dep, depL, lockO, itemsOf, unlock, freeS, wipeS, restS, D.flat, f1]
    have p2 : ev cf (.bin .mod (.var 1) (.cst (.int 16))) ⟨[.sh (ch c), .sh (nt r), .sh (.tup (W.map .str))]⟩ = .ok (.v (nt m)) ⟨[.sh (ch c), .sh (nt r), .sh (.tup (W.map .str))]⟩ := by simp [op2_some, ev_cst, ev_var, ev_bin, ev_neg, ev_not, ev_and, ev_or, ev_cmp, ev_chn, ev_isN, ev_notN, ev_ife, ev_tup, ev_lst, ev_idx, ev_slc, ev_call, ev_blt, ev_met, ev_joi, ev_lc, ev_isi, tst_eq, evI_eq, evs_nil, evs_cons, evF_nil, evF_cons, evo_no, evo_so, xs_asg, xs_asgT, xs_par, xs_sub, xs_exp, xs_ret, xs_retN, xs_if, xs_for, xs_whl, xs_brk, xs_rse, xs_cnt, xs_pas, xss_nil, xss_cons, itK_seq, itK_rng1, itK_rng2, itK_rng3, itK_enm, itK_zip, bind_ok, bind_bad, of_ok, fbind_nx, fbind_rt, fbind_bk, fbind_ct, ofO_some, ofS_some, cnt_v, cnt_o, cnt_b, cntS_eq, frz_v, frz_o, frz_b, fr_no, fr_sh, fr_ow, fr_le, fr_lf, fr_lk, putS_fr, mutS_eq, SZ, idxV, slcV, metV, mokV, mok, inS, isiV, joiV, idxR, ixN_nat, ixN_num, binR, addR, mulR, intR, cmpR, D.tr, CM, opd, slcR, bltR, metR, hand, lent, dist, back, cnts, asgT, asgTs, D.eqv, eqvL, D.pl, plL, D.dep, depL, lockO, itemsOf, unlock, freeS, wipeS, restS, D.flat, f2]
    have x1 := idx_go (rfl : ev cf (.var 2) ⟨[.sh (ch c), .sh (nt r), .sh (.tup (W.map .str))]⟩ = .ok (.v (.tup (W.map .str))) ⟨[.sh (ch c), .sh (nt r), .sh (.tup (W.map .str))]⟩) p1 rfl rfl b1
    have x2 := idx_go (rfl : ev cf (.var 2) ⟨[.sh (ch c), .sh (nt r), .sh (.tup (W.map .str))]⟩ = .ok (.v (.tup (W.map .str))) ⟨[.sh (ch c), .sh (nt r), .sh (.tup (W.map .str))]⟩) p2 rfl rfl b2
    have s2 := sh (15 + q)
    have s3 := sh m
    generalize W.getD (15 + q) [] = w1 at *
    generalize W.getD m [] = w2 at *
    have y : w1.length + w2.length ≤ 16777216 := by omega
    have h' : ¬ (r : Int) < 16 := by omega
    have h'' : (16 : Int) ≤ (r : Int) := by omega
    have st2 : xs cf (.iff (.cmp .lt (.var 1) (.cst (.int 16))) (.cons (.ret (.idx (.var 2) (.var 1))) .nil) .nil) ⟨[.sh (ch c), .sh (nt r), .sh (.tup (W.map .str))]⟩ = .nx ⟨[.sh (ch c), .sh (nt r), .sh (.tup (W.map .str))]⟩ := if_f (by simp [op2_some, ev_cst, ev_var, ev_bin, ev_neg, ev_not, ev_and, ev_or, ev_cmp, ev_chn, ev_isN, ev_notN, ev_ife, ev_tup, ev_lst, ev_idx, ev_slc, ev_call, ev_blt, ev_met, ev_joi, ev_lc, ev_isi, tst_eq, evI_eq, evs_nil, evs_cons, evF_nil, evF_cons, evo_no, evo_so, xs_asg, xs_asgT, xs_par, xs_sub, xs_exp, xs_ret, xs_retN, xs_if, xs_for, xs_whl, xs_brk, xs_rse, xs_cnt, xs_pas, xss_nil, xss_cons, itK_seq, itK_rng1, itK_rng2, itK_rng3, itK_enm, itK_zip, bind_ok, bind_bad, of_ok, fbind_nx, fbind_rt, fbind_bk, fbind_ct, ofO_some, ofS_some, cnt_v, cnt_o, cnt_b, cntS_eq, frz_v, frz_o, frz_b, fr_no, fr_sh, fr_ow, fr_le, fr_lf, fr_lk, putS_fr, mutS_eq, SZ, idxV, slcV, metV, mokV, mok, inS, isiV, joiV, idxR, ixN_nat, ixN_num, binR, addR, mulR, intR, cmpR, D.tr, CM, opd, slcR, bltR, metR, hand, lent, dist, back, cnts, asgT, asgTs, D.eqv, eqvL, D.pl, plL, D.dep, depL, lockO, itemsOf, unlock, freeS, wipeS, restS, D.flat, h']) rfl
    refine run_v (s := ⟨[.sh (ch c), .sh (nt r), .sh (.tup (W.map .str))]⟩) ⟨rfl, (show 2 ≤ 3 from by decide)⟩ (xss_go st1 (xss_go st2 ?_)) rfl rfl
    have hb := bin_go (o := .add) x1 x2 rfl rfl (show binR .add (.str w1) (.str w2) = some (.v (.str (w1 ++ w2))) from by simp [binR, addR, y])
    show (xs cf (.ret _) _).bind _ = _
    show Fo.bind (xs cf (.ret _) ⟨[.sh (ch c), .sh (nt r), .sh (.tup (W.map .str))]⟩) _ = _
    rw [xs_ret, hb]; rfl
/-! the law's own -/
def tabs : List D := [.lst (LW.map .str), .lst (DW.map .str), .lst (StW.map .str)]
def lrunBody : Ss :=
  (.cons (.asg (.var 3) (.idx (.var 0) (.blt .int (.cons (.cmp .eq (.var 1) (.cst (.str [35]))) .nil))))
  (.cons (.iff (.cmp .lt (.var 2) (.cst (.int 16))) (.cons (.ret (.idx (.var 3) (.var 2)))
  .nil) .nil)
  (.cons (.ret (.bin .add (.idx (.var 3) (.bin .add (.cst (.int 15)) (.bin .fdiv (.var 2) (.cst (.int 16))))) (.idx (.var 3) (.bin .sub (.var 2) (.bin .mul (.bin .fdiv (.var 2) (.cst (.int 16))) (.cst (.int 16)))))))
  .nil)))
theorem lrun_run (cf : Nat → List Slot → Co) (c : Nat) (hc : c = 46 ∨ c = 35) (r : Nat) (hr : r ≤ 64) :
    runDf ⟨3, 4, lrunBody⟩ cf [.le tabs, .sh (ch c), .sh (nt r)] = .ok (.v (.str (runW c r))) [.le tabs, .sh (ch c), .sh (nt r)] := by
  have sh := wds_short c
  have hl := wds_len c
  have e1 := idx_lstW (wds c)
  have st1 : xs cf (.asg (.var 3) (.idx (.var 0) (.blt .int (.cons (.cmp .eq (.var 1) (.cst (.str [35]))) .nil)))) ⟨[.le tabs, .sh (ch c), .sh (nt r), .no]⟩ = .nx ⟨[.le tabs, .sh (ch c), .sh (nt r), .sh (.lst ((wds c).map .str))]⟩ := by
    rcases hc with rfl | rfl <;> rfl
  unfold runW
  generalize wds c = W at *
  generalize tabs = T at *
  by_cases h : r < 16
  · rw [if_pos h]
    have hx : ev cf (.idx (.var 3) (.var 2)) ⟨[.le T, .sh (ch c), .sh (nt r), .sh (.lst (W.map .str))]⟩ = .ok (.v (.str (W.getD r []))) ⟨[.le T, .sh (ch c), .sh (nt r), .sh (.lst (W.map .str))]⟩ := idx_go (rfl : ev cf (.var 3) _ = .ok (.v _) _) (rfl : ev cf (.var 2) _ = .ok (.v _) _) rfl rfl (e1 r (by omega))
    generalize W.getD r [] = w at *
    refine run_v (s := ⟨[.le T, .sh (ch c), .sh (nt r), .sh (.lst (W.map .str))]⟩) ⟨rfl, (show 3 ≤ 4 from by decide)⟩ (xss_go st1 ?_) rfl rfl
    generalize (Ex.idx (.var 3) (.var 2)) = E at hx ⊢
    have h' : (r : Int) < 16 := by omega
    simp [op2_some, ev_cst, ev_var, ev_bin, ev_neg, ev_not, ev_and, ev_or, ev_cmp, ev_chn, ev_isN, ev_notN, ev_ife, ev_tup, ev_lst, ev_idx, ev_slc, ev_call, ev_blt, ev_met, ev_joi, ev_lc, ev_isi, tst_eq, evI_eq, evs_nil, evs_cons, evF_nil, evF_cons, evo_no, evo_so, xs_asg, xs_asgT, xs_par, xs_sub, xs_exp, xs_ret, xs_retN, xs_if, xs_for, xs_whl, xs_brk, xs_rse, xs_cnt, xs_pas, xss_nil, xss_cons, itK_seq, itK_rng1, itK_rng2, itK_rng3, itK_enm, itK_zip, bind_ok, bind_bad, of_ok, fbind_nx, fbind_rt, fbind_bk, fbind_ct, ofO_some, ofS_some, cnt_v, cnt_o, cnt_b, cntS_eq, frz_v, frz_o, frz_b, fr_no, fr_sh, fr_ow, fr_le, fr_lf, fr_lk, putS_fr, mutS_eq, SZ, idxV, slcV, metV, mokV, mok, inS, isiV, joiV, idxR, ixN_nat, ixN_num, binR, addR, mulR, intR, cmpR, D.tr, CM, opd, slcR, bltR, metR, hand, lent, dist, back, cnts, asgT, asgTs, D.eqv, eqvL, D.pl, plL, D.dep, depL, lockO, itemsOf, unlock, freeS, wipeS, restS, D.flat, h', hx]
  · rw [if_neg h]
    obtain ⟨q, hq⟩ : ∃ q, q = r / 16 := ⟨_, rfl⟩
    obtain ⟨m, hm⟩ : ∃ m, m = r % 16 := ⟨_, rfl⟩
    have f1 : ((r : Int)).fdiv 16 = (q : Int) := by rw [hq]; exact div_nat r 16
    have f2 : (r : Int) - (q : Int) * 16 = (m : Int) := by omega
    have b1 := e1 (15 + q) (by omega)
    have b2 := e1 m (by omega)
    rw [← hq, ← hm] at *
    have p1 : ev cf (.bin .add (.cst (.int 15)) (.bin .fdiv (.var 2) (.cst (.int 16)))) ⟨[.le T, .sh (ch c), .sh (nt r), .sh (.lst (W.map .str))]⟩ = .ok (.v (nt (15 + q))) ⟨[.le T, .sh (ch c), .sh (nt r), .sh (.lst (W.map .str))]⟩ := by simp [op2_some, ev_cst, ev_var, ev_bin, ev_neg, ev_not, ev_and, ev_or, ev_cmp, ev_chn, ev_isN, ev_notN, ev_ife, ev_tup, ev_lst, ev_idx, ev_slc, ev_call, ev_blt, ev_met, ev_joi, ev_lc, ev_isi, tst_eq, evI_eq, evs_nil, evs_cons, evF_nil, evF_cons, evo_no, evo_so, xs_asg, xs_asgT, xs_par, xs_sub, xs_exp, xs_ret, xs_retN, xs_if, xs_for, xs_whl, xs_brk, xs_rse, xs_cnt, xs_pas, xss_nil, xss_cons, itK_seq, itK_rng1, itK_rng2, itK_rng3, itK_enm, itK_zip, bind_ok, bind_bad, of_ok, fbind_nx, fbind_rt, fbind_bk, fbind_ct, ofO_some, ofS_some, cnt_v, cnt_o, cnt_b, cntS_eq, frz_v, frz_o, frz_b, fr_no, fr_sh, fr_ow, fr_le, fr_lf, fr_lk, putS_fr, mutS_eq, SZ, idxV, slcV, metV, mokV, mok, inS, isiV, joiV, idxR, ixN_nat, ixN_num, binR, addR, mulR, intR, cmpR, D.tr, CM, opd, slcR, bltR, metR, hand, lent, dist, back, cnts, asgT, asgTs, D.eqv, eqvL, D.pl, plL, D.dep, depL, lockO, itemsOf, unlock, freeS, wipeS, restS, D.flat, f1]
    have p2 : ev cf (.bin .sub (.var 2) (.bin .mul (.bin .fdiv (.var 2) (.cst (.int 16))) (.cst (.int 16)))) ⟨[.le T, .sh (ch c), .sh (nt r), .sh (.lst (W.map .str))]⟩ = .ok (.v (nt m)) ⟨[.le T, .sh (ch c), .sh (nt r), .sh (.lst (W.map .str))]⟩ := by simp [op2_some, ev_cst, ev_var, ev_bin, ev_neg, ev_not, ev_and, ev_or, ev_cmp, ev_chn, ev_isN, ev_notN, ev_ife, ev_tup, ev_lst, ev_idx, ev_slc, ev_call, ev_blt, ev_met, ev_joi, ev_lc, ev_isi, tst_eq, evI_eq, evs_nil, evs_cons, evF_nil, evF_cons, evo_no, evo_so, xs_asg, xs_asgT, xs_par, xs_sub, xs_exp, xs_ret, xs_retN, xs_if, xs_for, xs_whl, xs_brk, xs_rse, xs_cnt, xs_pas, xss_nil, xss_cons, itK_seq, itK_rng1, itK_rng2, itK_rng3, itK_enm, itK_zip, bind_ok, bind_bad, of_ok, fbind_nx, fbind_rt, fbind_bk, fbind_ct, ofO_some, ofS_some, cnt_v, cnt_o, cnt_b, cntS_eq, frz_v, frz_o, frz_b, fr_no, fr_sh, fr_ow, fr_le, fr_lf, fr_lk, putS_fr, mutS_eq, SZ, idxV, slcV, metV, mokV, mok, inS, isiV, joiV, idxR, ixN_nat, ixN_num, binR, addR, mulR, intR, cmpR, D.tr, CM, opd, slcR, bltR, metR, hand, lent, dist, back, cnts, asgT, asgTs, D.eqv, eqvL, D.pl, plL, D.dep, depL, lockO, itemsOf, unlock, freeS, wipeS, restS, D.flat, f1, f2]
    have x1 := idx_go (rfl : ev cf (.var 3) ⟨[.le T, .sh (ch c), .sh (nt r), .sh (.lst (W.map .str))]⟩ = .ok (.v (.lst (W.map .str))) ⟨[.le T, .sh (ch c), .sh (nt r), .sh (.lst (W.map .str))]⟩) p1 rfl rfl b1
    have x2 := idx_go (rfl : ev cf (.var 3) ⟨[.le T, .sh (ch c), .sh (nt r), .sh (.lst (W.map .str))]⟩ = .ok (.v (.lst (W.map .str))) ⟨[.le T, .sh (ch c), .sh (nt r), .sh (.lst (W.map .str))]⟩) p2 rfl rfl b2
    have s2 := sh (15 + q)
    have s3 := sh m
    generalize W.getD (15 + q) [] = w1 at *
    generalize W.getD m [] = w2 at *
    have y : w1.length + w2.length ≤ 16777216 := by omega
    have h' : ¬ (r : Int) < 16 := by omega
    have st2 : xs cf (.iff (.cmp .lt (.var 2) (.cst (.int 16))) (.cons (.ret (.idx (.var 3) (.var 2))) .nil) .nil) ⟨[.le T, .sh (ch c), .sh (nt r), .sh (.lst (W.map .str))]⟩ = .nx ⟨[.le T, .sh (ch c), .sh (nt r), .sh (.lst (W.map .str))]⟩ := if_f (by simp [op2_some, ev_cst, ev_var, ev_bin, ev_neg, ev_not, ev_and, ev_or, ev_cmp, ev_chn, ev_isN, ev_notN, ev_ife, ev_tup, ev_lst, ev_idx, ev_slc, ev_call, ev_blt, ev_met, ev_joi, ev_lc, ev_isi, tst_eq, evI_eq, evs_nil, evs_cons, evF_nil, evF_cons, evo_no, evo_so, xs_asg, xs_asgT, xs_par, xs_sub, xs_exp, xs_ret, xs_retN, xs_if, xs_for, xs_whl, xs_brk, xs_rse, xs_cnt, xs_pas, xss_nil, xss_cons, itK_seq, itK_rng1, itK_rng2, itK_rng3, itK_enm, itK_zip, bind_ok, bind_bad, of_ok, fbind_nx, fbind_rt, fbind_bk, fbind_ct, ofO_some, ofS_some, cnt_v, cnt_o, cnt_b, cntS_eq, frz_v, frz_o, frz_b, fr_no, fr_sh, fr_ow, fr_le, fr_lf, fr_lk, putS_fr, mutS_eq, SZ, idxV, slcV, metV, mokV, mok, inS, isiV, joiV, idxR, ixN_nat, ixN_num, binR, addR, mulR, intR, cmpR, D.tr, CM, opd, slcR, bltR, metR, hand, lent, dist, back, cnts, asgT, asgTs, D.eqv, eqvL, D.pl, plL, D.dep, depL, lockO, itemsOf, unlock, freeS, wipeS, restS, D.flat, h']) rfl
    refine run_v (s := ⟨[.le T, .sh (ch c), .sh (nt r), .sh (.lst (W.map .str))]⟩) ⟨rfl, (show 3 ≤ 4 from by decide)⟩ (xss_go st1 (xss_go st2 ?_)) rfl rfl
    have hb := bin_go (o := .add) x1 x2 rfl rfl (show binR .add (.str w1) (.str w2) = some (.v (.str (w1 ++ w2))) from by simp [binR, addR, y])
    show (xs cf (.ret _) _).bind _ = _
    show Fo.bind (xs cf (.ret _) ⟨[.le T, .sh (ch c), .sh (nt r), .sh (.lst (W.map .str))]⟩) _ = _
    rw [xs_ret, hb]; rfl
end Z

/-! Z: steps by the row above. -/
namespace Z
/-! the first place -/
def firstF (P : Nat → Bool) (q n : Nat) : Nat := ((List.range' q (n - q)).find? P).getD n
theorem first_spec (P : Nat → Bool) (q n : Nat) (h : q ≤ n) : q ≤ firstF P q n ∧ firstF P q n ≤ n ∧ (∀ i, q ≤ i → i < firstF P q n → P i = false) ∧ (firstF P q n < n → P (firstF P q n) = true) := by
  unfold firstF
  cases hf : (List.range' q (n - q)).find? P with
  | none =>
    rw [List.find?_eq_none] at hf
    refine ⟨h, Nat.le_refl _, fun i h1 h2 => ?_, fun h => absurd h (Nat.lt_irrefl _)⟩
    have h2 : i < n := h2
    simpa using hf i (List.mem_range'_1.mpr ⟨h1, by omega⟩)
  | some k =>
    have hk := List.mem_range'_1.mp (List.mem_of_find?_eq_some hf)
    refine ⟨hk.1, by show k ≤ n; omega, fun i h1 h2 => ?_, fun _ => List.find?_some hf⟩
    have h2 : i < k := h2
    obtain ⟨_, as, bs, e, hn⟩ := List.find?_eq_some_iff_append.mp hf
    have hi : i ∈ as := by
      have hl : as = List.range' q (k - q) := by
        have e2 : List.range' q (n - q) = List.range' q (k - q) ++ (k :: List.range' (k + 1) (n - k - 1)) := by
          have e3 : n - q = (k - q) + ((n - k - 1) + 1) := by omega
          rw [e3, ← List.range'_append_1, List.range'_succ]
          congr 2
          · omega
          · congr 1; omega
        rw [e2] at e
        have hlen : as.length = (List.range' q (k - q)).length := by
          have g1 : (as ++ k :: bs)[as.length]? = some k := by simp
          have hlt : as.length < n - q := by
            have := congrArg List.length e
            simp at this; omega
          rw [← e, ← e2, List.getElem?_range' ] at g1
          · simp at g1 ⊢; omega
          · exact hlt
        exact (List.append_inj_left e hlen.symm).symm
      rw [hl]; exact List.mem_range'_1.mpr ⟨h1, by omega⟩
    simpa using hn i hi
theorem first_uniq (P : Nat → Bool) (q n r : Nat) (h1 : q ≤ r) (h2 : r ≤ n) (h3 : ∀ i, q ≤ i → i < r → P i = false) (h4 : r < n → P r = true) : firstF P q n = r := by
  obtain ⟨a, b, c, d⟩ := first_spec P q n (by omega)
  rcases Nat.lt_trichotomy (firstF P q n) r with h | h | h
  · have := h3 _ a h
    rw [d (by omega)] at this; cases this
  · exact h
  · have := c r h1 h
    rw [h4 (by omega)] at this; cases this
theorem first_congr {P Q : Nat → Bool} {q n : Nat} (h : q ≤ n) (e : ∀ i, q ≤ i → i < n → P i = Q i) : firstF P q n = firstF Q q n := by
  obtain ⟨a, b, c, d⟩ := first_spec Q q n h
  exact first_uniq P q n _ a b (fun i h1 h2 => by rw [e i h1 (by omega)]; exact c i h1 h2) (fun h => by rw [e _ a h]; exact d h)
abbrev isC (row : List Nat) (c : Nat) : Nat → Bool := fun k => row.getD k 0 == c
theorem at_one (row : List Nat) (c i : Nat) : atS row [c] i = decide (row[i]? = some c) := by
  unfold atS
  rw [Bool.eq_iff_iff, Bool.and_eq_true, decide_eq_true_eq, decide_eq_true_eq]
  by_cases h : i < row.length
  · rw [List.drop_eq_getElem_cons h, List.getElem?_eq_getElem h]
    simp [List.isPrefixOf]
    constructor
    · exact fun e => e.2.symm
    · exact fun e => ⟨by omega, e.symm⟩
  · rw [List.drop_of_length_le (by omega), List.getElem?_eq_none (by omega)]
    simp [List.isPrefixOf]
theorem getD_eq (row : List Nat) (i : Nat) (h : i < row.length) : row[i]? = some (row.getD i 0) := by
  rw [List.getD_eq_getElem?_getD, List.getElem?_eq_getElem h]; rfl
theorem fnd_first (row : List Nat) (c b : Nat) (h : b ≤ row.length) : fndI (fnd row [c] b) = if firstF (isC row c) b row.length < row.length then ((firstF (isC row c) b row.length : Nat) : Int) else -1 := by
  obtain ⟨h1, h2, h3, h4⟩ := first_spec (isC row c) b row.length h
  generalize firstF (isC row c) b row.length = r at *
  by_cases hr : r < row.length
  · rw [if_pos hr]
    have e : fnd row [c] b = some r := by
      unfold fnd
      rw [List.find?_range_eq_some]
      refine ⟨?_, List.mem_range.mpr (by omega), fun j hj => ?_⟩
      · rw [decide_eq_true h1, at_one, getD_eq row r hr]
        have := h4 hr
        simpa using this
      · by_cases hb : b ≤ j
        · have := h3 j hb hj
          rw [at_one, getD_eq row j (by omega)]
          simp at this ⊢
          exact .inr this
        · simp; omega
    rw [e]; rfl
  · rw [if_neg hr]
    have e : fnd row [c] b = none := by
      unfold fnd
      rw [List.find?_eq_none]
      intro j hj
      rw [Bool.and_eq_true, decide_eq_true_eq, at_one, decide_eq_true_eq]
      intro ⟨q1, q2⟩
      obtain ⟨q3, q4⟩ := List.getElem?_eq_some_iff.mp q2
      have := h3 j q1 (by omega)
      rw [beq_eq_false_iff_ne] at this
      exact this (by rw [List.getD_eq_getElem?_getD, q2]; rfl)
    rw [e]; rfl
theorem rt_go {cf : Nat → List Slot → Co} {st : Sx} {r : Ss} {s s1 : S} {v : Rv} (h1 : xs cf st s = .rt v s1) : xss cf (.cons st r) s = .rt v s1 := by
  show (xs cf st s).bind (xss cf r) = _
  rw [h1]; rfl
/-! a loop that ends at the first place -/
theorem forL_first {t : Tg} {fb : S → Fo} {p : Nat} (P : Nat → Bool) (st : Nat → S) : ∀ (n a : Nat) (s : S), (∀ k, p ≤ k → k < p + n → ∀ s', (s' = s ∨ ∃ j, s' = st j) → asgT t (nt k) s' = some (st k)) → a ≤ n → ∀ s', (s' = s ∨ ∃ j, s' = st j) →
    (∀ k, p ≤ k → k < p + n → fb (st k) = if P k then .rt (.v (nt k)) (st k) else .nx (st k)) →
    (∃ k, (List.range' (p + (n - a)) a).find? P = some k ∧ forL t [] fb ((List.range' (n - a) a).map fun (k : Nat) => nt (p + k)) s' = .rt (.v (nt k)) (st k)) ∨
    ((List.range' (p + (n - a)) a).find? P = none ∧ ∃ s2, (s2 = s ∨ ∃ j, s2 = st j) ∧ forL t [] fb ((List.range' (n - a) a).map fun (k : Nat) => nt (p + k)) s' = .nx s2) := by
  intro n a
  induction a with
  | zero => intro s _ _ s' hs' _; exact .inr ⟨rfl, s', hs', rfl⟩
  | succ a ih =>
    intro s hT ha s' hs' hb
    have e : n - (a + 1) + 1 = n - a := by omega
    have hk := hT (p + (n - (a + 1))) (by omega) (by omega) s' hs'
    have hbk := hb (p + (n - (a + 1))) (by omega) (by omega)
    rw [List.range'_succ, List.range'_succ, List.map_cons, List.find?_cons]
    unfold forL
    rw [hk]
    dsimp only
    rw [hbk]
    by_cases hP : P (p + (n - (a + 1))) = true
    · rw [hP, if_pos rfl]
      exact .inl ⟨_, rfl, rfl⟩
    · have hP' : P (p + (n - (a + 1))) = false := by simpa using hP
      rw [hP', if_neg Bool.false_ne_true]
      have := ih s hT (by omega) (st (p + (n - (a + 1)))) (.inr ⟨_, rfl⟩) hb
      rw [show p + (n - (a + 1)) + 1 = p + (n - a) from by omega, e]
      exact this
/-- a def: for k in range(place + 1, len(row)): if P: return k; return len(row) -/
def firstBody (c : Ex) : Ss :=
  (.cons (.fors (.var 3) .rng2 (.cons (.bin .add (.var 1) (.cst (.int 1))) (.cons (.blt .len (.cons (.var 0) .nil)) .nil)) (.cons (.iff c (.cons (.ret (.var 3))
  .nil) .nil)
  .nil))
  (.cons (.ret (.blt .len (.cons (.var 0) .nil)))
  .nil))
theorem firstBody_run (cf : Nat → List Slot → Co) (c : Ex) (row : List Nat) (hr : row.length ≤ 1000) (B : D) (pl : Int) (q : Nat) (hq : pl + 1 = (q : Int)) (hq2 : q ≤ 1001) (P : Nat → Bool)
    (hc : ∀ k, q ≤ k → k < row.length → tst (ev cf c) ⟨[.sh (.str row), .sh (.int pl), .sh B, .sh (nt k)]⟩ = .ok (P k) ⟨[.sh (.str row), .sh (.int pl), .sh B, .sh (nt k)]⟩) :
    runDf ⟨3, 4, firstBody c⟩ cf [.sh (.str row), .sh (.int pl), .sh B] = .ok (.v (nt (firstF P q row.length))) [.sh (.str row), .sh (.int pl), .sh B] := by
  have z1 : row.length ≤ 16777216 := by omega
  have hx : evs cf (.cons (.bin .add (.var 1) (.cst (.int 1))) (.cons (.blt .len (.cons (.var 0) .nil)) .nil)) ⟨[.sh (.str row), .sh (.int pl), .sh B, .no]⟩ = .ok [.v (nt q), .v (nt row.length)] ⟨[.sh (.str row), .sh (.int pl), .sh B, .no]⟩ := by
    simp [op2_some, ev_cst, ev_var, ev_bin, ev_neg, ev_not, ev_and, ev_or, ev_cmp, ev_chn, ev_isN, ev_notN, ev_ife, ev_tup, ev_lst, ev_idx, ev_slc, ev_call, ev_blt, ev_met, ev_joi, ev_lc, ev_isi, tst_eq, evI_eq, evs_nil, evs_cons, evF_nil, evF_cons, evo_no, evo_so, xs_asg, xs_asgT, xs_par, xs_sub, xs_exp, xs_ret, xs_retN, xs_if, xs_for, xs_whl, xs_brk, xs_rse, xs_cnt, xs_pas, xss_nil, xss_cons, itK_seq, itK_rng1, itK_rng2, itK_rng3, itK_enm, itK_zip, bind_ok, bind_bad, of_ok, fbind_nx, fbind_rt, fbind_bk, fbind_ct, ofO_some, ofS_some, cnt_v, cnt_o, cnt_b, cntS_eq, frz_v, frz_o, frz_b, fr_no, fr_sh, fr_ow, fr_le, fr_lf, fr_lk, putS_fr, mutS_eq, SZ, idxV, slcV, metV, mokV, mok, inS, isiV, joiV, idxR, ixN_nat, ixN_num, binR, addR, mulR, intR, cmpR, D.tr, CM, opd, slcR, bltR, metR, hand, lent, dist, back, cnts, asgT, asgTs, D.eqv, eqvL, D.pl, plL, D.dep, depL, lockO, itemsOf, unlock, freeS, wipeS, restS, D.flat, z1, hq]
  have hit := rng2_go hx (by omega) (by omega)
  have key := forL_first (t := .var 3) (fb := xss cf (.cons (.iff c (.cons (.ret (.var 3)) .nil) .nil) .nil)) (p := q) P (fun k => (⟨[.sh (.str row), .sh (.int pl), .sh B, .sh (nt k)]⟩ : S)) (row.length - q) (row.length - q) ⟨[.sh (.str row), .sh (.int pl), .sh B, .no]⟩
    (fun k _ _ s' hs' => by rcases hs' with rfl | ⟨j, rfl⟩ <;> rfl) (Nat.le_refl _) _ (.inl rfl)
    (fun k h1 h2 => by
      have h := hc k h1 (by omega)
      by_cases hP : P k = true
      · rw [hP] at h ⊢
        rw [if_pos rfl]
        exact rt_go (if_t h rfl)
      · have hP' : P k = false := by simpa using hP
        rw [hP'] at h ⊢
        rw [if_neg Bool.false_ne_true]
        exact xss_go (if_f h rfl) rfl)
  rw [Nat.sub_self, Nat.add_zero, ← List.range_eq_range'] at key
  unfold firstF
  rcases key with ⟨k, h1, h2⟩ | ⟨h1, s2, hs2, h2⟩
  · rw [h1]
    refine run_v (s := ⟨[.sh (.str row), .sh (.int pl), .sh B, .sh (nt k)]⟩) ⟨rfl, (show 3 ≤ 4 from by decide)⟩ (rt_go (for_go hit h2)) rfl rfl
  · rw [h1]
    rcases hs2 with rfl | ⟨j, rfl⟩
    · refine run_v (s := ⟨[.sh (.str row), .sh (.int pl), .sh B, .no]⟩) ⟨rfl, (show 3 ≤ 4 from by decide)⟩ (xss_go (for_go hit h2) ?_) rfl rfl
      simp [op2_some, ev_cst, ev_var, ev_bin, ev_neg, ev_not, ev_and, ev_or, ev_cmp, ev_chn, ev_isN, ev_notN, ev_ife, ev_tup, ev_lst, ev_idx, ev_slc, ev_call, ev_blt, ev_met, ev_joi, ev_lc, ev_isi, tst_eq, evI_eq, evs_nil, evs_cons, evF_nil, evF_cons, evo_no, evo_so, xs_asg, xs_asgT, xs_par, xs_sub, xs_exp, xs_ret, xs_retN, xs_if, xs_for, xs_whl, xs_brk, xs_rse, xs_cnt, xs_pas, xss_nil, xss_cons, itK_seq, itK_rng1, itK_rng2, itK_rng3, itK_enm, itK_zip, bind_ok, bind_bad, of_ok, fbind_nx, fbind_rt, fbind_bk, fbind_ct, ofO_some, ofS_some, cnt_v, cnt_o, cnt_b, cntS_eq, frz_v, frz_o, frz_b, fr_no, fr_sh, fr_ow, fr_le, fr_lf, fr_lk, putS_fr, mutS_eq, SZ, idxV, slcV, metV, mokV, mok, inS, isiV, joiV, idxR, ixN_nat, ixN_num, binR, addR, mulR, intR, cmpR, D.tr, CM, opd, slcR, bltR, metR, hand, lent, dist, back, cnts, asgT, asgTs, D.eqv, eqvL, D.pl, plL, D.dep, depL, lockO, itemsOf, unlock, freeS, wipeS, restS, D.flat, z1]
    · refine run_v (s := ⟨[.sh (.str row), .sh (.int pl), .sh B, .sh (nt j)]⟩) ⟨rfl, (show 3 ≤ 4 from by decide)⟩ (xss_go (for_go hit h2) ?_) rfl rfl
      simp [op2_some, ev_cst, ev_var, ev_bin, ev_neg, ev_not, ev_and, ev_or, ev_cmp, ev_chn, ev_isN, ev_notN, ev_ife, ev_tup, ev_lst, ev_idx, ev_slc, ev_call, ev_blt, ev_met, ev_joi, ev_lc, ev_isi, tst_eq, evI_eq, evs_nil, evs_cons, evF_nil, evF_cons, evo_no, evo_so, xs_asg, xs_asgT, xs_par, xs_sub, xs_exp, xs_ret, xs_retN, xs_if, xs_for, xs_whl, xs_brk, xs_rse, xs_cnt, xs_pas, xss_nil, xss_cons, itK_seq, itK_rng1, itK_rng2, itK_rng3, itK_enm, itK_zip, bind_ok, bind_bad, of_ok, fbind_nx, fbind_rt, fbind_bk, fbind_ct, ofO_some, ofS_some, cnt_v, cnt_o, cnt_b, cntS_eq, frz_v, frz_o, frz_b, fr_no, fr_sh, fr_ow, fr_le, fr_lf, fr_lk, putS_fr, mutS_eq, SZ, idxV, slcV, metV, mokV, mok, inS, isiV, joiV, idxR, ixN_nat, ixN_num, binR, addR, mulR, intR, cmpR, D.tr, CM, opd, slcR, bltR, metR, hand, lent, dist, back, cnts, asgT, asgTs, D.eqv, eqvL, D.pl, plL, D.dep, depL, lockO, itemsOf, unlock, freeS, wipeS, restS, D.flat, z1]
def ownE : Ex := .cmp .ne (.idx (.var 0) (.var 3)) (.var 2)
def backE : Ex := .cmp .eq (.idx (.var 0) (.var 3)) (.var 2)
def farE : Ex := .and (.cmp .ne (.idx (.var 0) (.var 3)) (.var 2)) (.cmp .eq (.idx (.bin .add (.cst (.str [46])) (.var 0)) (.var 3)) (.var 2))
theorem own_run (cf : Nat → List Slot → Co) (row : List Nat) (hr : row.length ≤ 1000) (c : Nat) (pl : Int) (q : Nat) (hq : pl + 1 = (q : Int)) (hq2 : q ≤ 1001) :
    runDf ⟨3, 4, firstBody ownE⟩ cf [.sh (.str row), .sh (.int pl), .sh (ch c)] = .ok (.v (nt (firstF (fun k => row.getD k 0 != c) q row.length))) [.sh (.str row), .sh (.int pl), .sh (ch c)] :=
  firstBody_run cf ownE row hr (ch c) pl q hq hq2 _ fun k h1 h2 => by
    have z1 : row.length ≤ 16777216 := by omega
    have e : row[k] = row.getD k 0 := by rw [List.getD_eq_getElem?_getD, List.getElem?_eq_getElem h2]; rfl
    generalize row.getD k 0 = d at e
    simp [ownE, op2_some, ev_cst, ev_var, ev_bin, ev_neg, ev_not, ev_and, ev_or, ev_cmp, ev_chn, ev_isN, ev_notN, ev_ife, ev_tup, ev_lst, ev_idx, ev_slc, ev_call, ev_blt, ev_met, ev_joi, ev_lc, ev_isi, tst_eq, evI_eq, evs_nil, evs_cons, evF_nil, evF_cons, evo_no, evo_so, xs_asg, xs_asgT, xs_par, xs_sub, xs_exp, xs_ret, xs_retN, xs_if, xs_for, xs_whl, xs_brk, xs_rse, xs_cnt, xs_pas, xss_nil, xss_cons, itK_seq, itK_rng1, itK_rng2, itK_rng3, itK_enm, itK_zip, bind_ok, bind_bad, of_ok, fbind_nx, fbind_rt, fbind_bk, fbind_ct, ofO_some, ofS_some, cnt_v, cnt_o, cnt_b, cntS_eq, frz_v, frz_o, frz_b, fr_no, fr_sh, fr_ow, fr_le, fr_lf, fr_lk, putS_fr, mutS_eq, SZ, idxV, slcV, metV, mokV, mok, inS, isiV, joiV, idxR, ixN_nat, ixN_num, binR, addR, mulR, intR, cmpR, D.tr, CM, opd, slcR, bltR, metR, hand, lent, dist, back, cnts, asgT, asgTs, D.eqv, eqvL, D.pl, plL, D.dep, depL, lockO, itemsOf, unlock, freeS, wipeS, restS, D.flat, z1, h2, e, bne]
theorem back_run (cf : Nat → List Slot → Co) (row : List Nat) (hr : row.length ≤ 1000) (c : Nat) (pl : Int) (q : Nat) (hq : pl + 1 = (q : Int)) (hq2 : q ≤ 1001) :
    runDf ⟨3, 4, firstBody backE⟩ cf [.sh (.str row), .sh (.int pl), .sh (ch c)] = .ok (.v (nt (firstF (isC row c) q row.length))) [.sh (.str row), .sh (.int pl), .sh (ch c)] :=
  firstBody_run cf backE row hr (ch c) pl q hq hq2 _ fun k h1 h2 => by
    have z1 : row.length ≤ 16777216 := by omega
    have e : row[k] = row.getD k 0 := by rw [List.getD_eq_getElem?_getD, List.getElem?_eq_getElem h2]; rfl
    show _ = Ro.ok (row.getD k 0 == c) _
    generalize row.getD k 0 = d at e
    simp [backE, op2_some, ev_cst, ev_var, ev_bin, ev_neg, ev_not, ev_and, ev_or, ev_cmp, ev_chn, ev_isN, ev_notN, ev_ife, ev_tup, ev_lst, ev_idx, ev_slc, ev_call, ev_blt, ev_met, ev_joi, ev_lc, ev_isi, tst_eq, evI_eq, evs_nil, evs_cons, evF_nil, evF_cons, evo_no, evo_so, xs_asg, xs_asgT, xs_par, xs_sub, xs_exp, xs_ret, xs_retN, xs_if, xs_for, xs_whl, xs_brk, xs_rse, xs_cnt, xs_pas, xss_nil, xss_cons, itK_seq, itK_rng1, itK_rng2, itK_rng3, itK_enm, itK_zip, bind_ok, bind_bad, of_ok, fbind_nx, fbind_rt, fbind_bk, fbind_ct, ofO_some, ofS_some, cnt_v, cnt_o, cnt_b, cntS_eq, frz_v, frz_o, frz_b, fr_no, fr_sh, fr_ow, fr_le, fr_lf, fr_lk, putS_fr, mutS_eq, SZ, idxV, slcV, metV, mokV, mok, inS, isiV, joiV, idxR, ixN_nat, ixN_num, binR, addR, mulR, intR, cmpR, D.tr, CM, opd, slcR, bltR, metR, hand, lent, dist, back, cnts, asgT, asgTs, D.eqv, eqvL, D.pl, plL, D.dep, depL, lockO, itemsOf, unlock, freeS, wipeS, restS, D.flat, z1, h2, e]
abbrev farP (above : List Nat) (c : Nat) : Nat → Bool := fun k => (above.getD k 0 != c) && ((46 :: above).getD k 0 == c)
theorem far_run (cf : Nat → List Slot → Co) (row : List Nat) (hr : row.length ≤ 1000) (c : Nat) (pl : Int) (q : Nat) (hq : pl + 1 = (q : Int)) (hq2 : q ≤ 1001) :
    runDf ⟨3, 4, firstBody farE⟩ cf [.sh (.str row), .sh (.int pl), .sh (ch c)] = .ok (.v (nt (firstF (farP row c) q row.length))) [.sh (.str row), .sh (.int pl), .sh (ch c)] :=
  firstBody_run cf farE row hr (ch c) pl q hq hq2 _ fun k h1 h2 => by
    have z1 : row.length ≤ 16777216 := by omega
    have z2 : row.length + 1 ≤ 16777216 := by omega
    have z3 : row.length ≤ 16777215 := by omega
    have z4 : 1 + row.length ≤ 16777216 := by omega
    have h3 : k < row.length + 1 := by omega
    have e : row[k] = row.getD k 0 := by rw [List.getD_eq_getElem?_getD, List.getElem?_eq_getElem h2]; rfl
    have e2 : (46 :: row)[k]? = some ((46 :: row).getD k 0) := by rw [List.getD_eq_getElem?_getD, List.getElem?_eq_getElem (by simp; omega)]; rfl
    have e3 : (46 :: row)[k] = (46 :: row).getD k 0 := by rw [List.getD_eq_getElem?_getD, List.getElem?_eq_getElem (by simp; omega)]; rfl
    unfold farP
    generalize row.getD k 0 = d at e
    generalize (46 :: row).getD k 0 = f at e2 e3
    by_cases hd : d = c
    · simp [farE, op2_some, ev_cst, ev_var, ev_bin, ev_neg, ev_not, ev_and, ev_or, ev_cmp, ev_chn, ev_isN, ev_notN, ev_ife, ev_tup, ev_lst, ev_idx, ev_slc, ev_call, ev_blt, ev_met, ev_joi, ev_lc, ev_isi, tst_eq, evI_eq, evs_nil, evs_cons, evF_nil, evF_cons, evo_no, evo_so, xs_asg, xs_asgT, xs_par, xs_sub, xs_exp, xs_ret, xs_retN, xs_if, xs_for, xs_whl, xs_brk, xs_rse, xs_cnt, xs_pas, xss_nil, xss_cons, itK_seq, itK_rng1, itK_rng2, itK_rng3, itK_enm, itK_zip, bind_ok, bind_bad, of_ok, fbind_nx, fbind_rt, fbind_bk, fbind_ct, ofO_some, ofS_some, cnt_v, cnt_o, cnt_b, cntS_eq, frz_v, frz_o, frz_b, fr_no, fr_sh, fr_ow, fr_le, fr_lf, fr_lk, putS_fr, mutS_eq, SZ, idxV, slcV, metV, mokV, mok, inS, isiV, joiV, idxR, ixN_nat, ixN_num, binR, addR, mulR, intR, cmpR, D.tr, CM, opd, slcR, bltR, metR, hand, lent, dist, back, cnts, asgT, asgTs, D.eqv, eqvL, D.pl, plL, D.dep, depL, lockO, itemsOf, unlock, freeS, wipeS, restS, D.flat, z1, z2, z3, z4, h2, h3, e, e2, e3, hd]
    · simp [farE, op2_some, ev_cst, ev_var, ev_bin, ev_neg, ev_not, ev_and, ev_or, ev_cmp, ev_chn, ev_isN, ev_notN, ev_ife, ev_tup, ev_lst, ev_idx, ev_slc, ev_call, ev_blt, ev_met, ev_joi, ev_lc, ev_isi, tst_eq, evI_eq, evs_nil, evs_cons, evF_nil, evF_cons, evo_no, evo_so, xs_asg, xs_asgT, xs_par, xs_sub, xs_exp, xs_ret, xs_retN, xs_if, xs_for, xs_whl, xs_brk, xs_rse, xs_cnt, xs_pas, xss_nil, xss_cons, itK_seq, itK_rng1, itK_rng2, itK_rng3, itK_enm, itK_zip, bind_ok, bind_bad, of_ok, fbind_nx, fbind_rt, fbind_bk, fbind_ct, ofO_some, ofS_some, cnt_v, cnt_o, cnt_b, cntS_eq, frz_v, frz_o, frz_b, fr_no, fr_sh, fr_ow, fr_le, fr_lf, fr_lk, putS_fr, mutS_eq, SZ, idxV, slcV, metV, mokV, mok, inS, isiV, joiV, idxR, ixN_nat, ixN_num, binR, addR, mulR, intR, cmpR, D.tr, CM, opd, slcR, bltR, metR, hand, lent, dist, back, cnts, asgT, asgTs, D.eqv, eqvL, D.pl, plL, D.dep, depL, lockO, itemsOf, unlock, freeS, wipeS, restS, D.flat, z1, z2, z3, z4, h2, h3, e, e2, e3, hd]
/-! the program's own -/
def otherBody : Ss :=
  (.cons (.iff (.cmp .eq (.var 0) (.cst (.str [46]))) (.cons (.ret (.cst (.str [35])))
  .nil) .nil)
  (.cons (.ret (.cst (.str [46])))
  .nil))
theorem other_run (cf : Nat → List Slot → Co) (c : Nat) : runDf ⟨1, 1, otherBody⟩ cf [.sh (ch c)] = .ok (.v (ch (flip1 c))) [.sh (ch c)] := by
  unfold flip1
  by_cases h : c = 46
  · subst h; simp [runDf, start, endR, otherBody, op2_some, ev_cst, ev_var, ev_bin, ev_neg, ev_not, ev_and, ev_or, ev_cmp, ev_chn, ev_isN, ev_notN, ev_ife, ev_tup, ev_lst, ev_idx, ev_slc, ev_call, ev_blt, ev_met, ev_joi, ev_lc, ev_isi, tst_eq, evI_eq, evs_nil, evs_cons, evF_nil, evF_cons, evo_no, evo_so, xs_asg, xs_asgT, xs_par, xs_sub, xs_exp, xs_ret, xs_retN, xs_if, xs_for, xs_whl, xs_brk, xs_rse, xs_cnt, xs_pas, xss_nil, xss_cons, itK_seq, itK_rng1, itK_rng2, itK_rng3, itK_enm, itK_zip, bind_ok, bind_bad, of_ok, fbind_nx, fbind_rt, fbind_bk, fbind_ct, ofO_some, ofS_some, cnt_v, cnt_o, cnt_b, cntS_eq, frz_v, frz_o, frz_b, fr_no, fr_sh, fr_ow, fr_le, fr_lf, fr_lk, putS_fr, mutS_eq, SZ, idxV, slcV, metV, mokV, mok, inS, isiV, joiV, idxR, ixN_nat, ixN_num, binR, addR, mulR, intR, cmpR, D.tr, CM, opd, slcR, bltR, metR, hand, lent, dist, back, cnts, asgT, asgTs, D.eqv, eqvL, D.pl, plL, D.dep, depL, lockO, itemsOf, unlock, freeS, wipeS, restS, D.flat]
  · simp [runDf, start, endR, otherBody, op2_some, ev_cst, ev_var, ev_bin, ev_neg, ev_not, ev_and, ev_or, ev_cmp, ev_chn, ev_isN, ev_notN, ev_ife, ev_tup, ev_lst, ev_idx, ev_slc, ev_call, ev_blt, ev_met, ev_joi, ev_lc, ev_isi, tst_eq, evI_eq, evs_nil, evs_cons, evF_nil, evF_cons, evo_no, evo_so, xs_asg, xs_asgT, xs_par, xs_sub, xs_exp, xs_ret, xs_retN, xs_if, xs_for, xs_whl, xs_brk, xs_rse, xs_cnt, xs_pas, xss_nil, xss_cons, itK_seq, itK_rng1, itK_rng2, itK_rng3, itK_enm, itK_zip, bind_ok, bind_bad, of_ok, fbind_nx, fbind_rt, fbind_bk, fbind_ct, ofO_some, ofS_some, cnt_v, cnt_o, cnt_b, cntS_eq, frz_v, frz_o, frz_b, fr_no, fr_sh, fr_ow, fr_le, fr_lf, fr_lk, putS_fr, mutS_eq, SZ, idxV, slcV, metV, mokV, mok, inS, isiV, joiV, idxR, ixN_nat, ixN_num, binR, addR, mulR, intR, cmpR, D.tr, CM, opd, slcR, bltR, metR, hand, lent, dist, back, cnts, asgT, asgTs, D.eqv, eqvL, D.pl, plL, D.dep, depL, lockO, itemsOf, unlock, freeS, wipeS, restS, D.flat, h]
def placeBody : Ss :=
  (.cons (.asg (.var 3) (.met .find2 (.var 0) (.cons (.var 1) (.cons (.var 2) .nil))))
  (.cons (.iff (.cmp .lt (.var 3) (.cst (.int 0))) (.cons (.ret (.blt .len (.cons (.var 0) .nil)))
  .nil) .nil)
  (.cons (.ret (.var 3))
  .nil)))
theorem place_run (cf : Nat → List Slot → Co) (row : List Nat) (hr : row.length ≤ 1000) (c b : Nat) (hb : b ≤ row.length) : runDf ⟨3, 4, placeBody⟩ cf [.sh (.str row), .sh (ch c), .sh (nt b)] = .ok (.v (nt (firstF (isC row c) b row.length))) [.sh (.str row), .sh (ch c), .sh (nt b)] := by
  have z1 : row.length ≤ 16777216 := by omega
  have e := fnd_first row c b hb
  obtain ⟨_, h2, _, _⟩ := first_spec (isC row c) b row.length hb
  generalize firstF (isC row c) b row.length = r at *
  have st1 : xs cf (.asg (.var 3) (.met .find2 (.var 0) (.cons (.var 1) (.cons (.var 2) .nil)))) ⟨[.sh (.str row), .sh (ch c), .sh (nt b), .no]⟩ = .nx ⟨[.sh (.str row), .sh (ch c), .sh (nt b), .sh (.int (if r < row.length then (r : Int) else -1))]⟩ := by
    rw [← e]
    simp [op2_some, ev_cst, ev_var, ev_bin, ev_neg, ev_not, ev_and, ev_or, ev_cmp, ev_chn, ev_isN, ev_notN, ev_ife, ev_tup, ev_lst, ev_idx, ev_slc, ev_call, ev_blt, ev_met, ev_joi, ev_lc, ev_isi, tst_eq, evI_eq, evs_nil, evs_cons, evF_nil, evF_cons, evo_no, evo_so, xs_asg, xs_asgT, xs_par, xs_sub, xs_exp, xs_ret, xs_retN, xs_if, xs_for, xs_whl, xs_brk, xs_rse, xs_cnt, xs_pas, xss_nil, xss_cons, itK_seq, itK_rng1, itK_rng2, itK_rng3, itK_enm, itK_zip, bind_ok, bind_bad, of_ok, fbind_nx, fbind_rt, fbind_bk, fbind_ct, ofO_some, ofS_some, cnt_v, cnt_o, cnt_b, cntS_eq, frz_v, frz_o, frz_b, fr_no, fr_sh, fr_ow, fr_le, fr_lf, fr_lk, putS_fr, mutS_eq, SZ, idxV, slcV, metV, mokV, mok, inS, isiV, joiV, idxR, ixN_nat, ixN_num, binR, addR, mulR, intR, cmpR, D.tr, CM, opd, slcR, bltR, metR, hand, lent, dist, back, cnts, asgT, asgTs, D.eqv, eqvL, D.pl, plL, D.dep, depL, lockO, itemsOf, unlock, freeS, wipeS, restS, D.flat]
  by_cases h : r < row.length
  · rw [if_pos h] at st1
    refine run_v (s := ⟨[.sh (.str row), .sh (ch c), .sh (nt b), .sh (nt r)]⟩) ⟨rfl, (show 3 ≤ 4 from by decide)⟩ (xss_go st1 ?_) rfl rfl
    have y : ¬ (r : Int) < 0 := by omega
    simp [op2_some, ev_cst, ev_var, ev_bin, ev_neg, ev_not, ev_and, ev_or, ev_cmp, ev_chn, ev_isN, ev_notN, ev_ife, ev_tup, ev_lst, ev_idx, ev_slc, ev_call, ev_blt, ev_met, ev_joi, ev_lc, ev_isi, tst_eq, evI_eq, evs_nil, evs_cons, evF_nil, evF_cons, evo_no, evo_so, xs_asg, xs_asgT, xs_par, xs_sub, xs_exp, xs_ret, xs_retN, xs_if, xs_for, xs_whl, xs_brk, xs_rse, xs_cnt, xs_pas, xss_nil, xss_cons, itK_seq, itK_rng1, itK_rng2, itK_rng3, itK_enm, itK_zip, bind_ok, bind_bad, of_ok, fbind_nx, fbind_rt, fbind_bk, fbind_ct, ofO_some, ofS_some, cnt_v, cnt_o, cnt_b, cntS_eq, frz_v, frz_o, frz_b, fr_no, fr_sh, fr_ow, fr_le, fr_lf, fr_lk, putS_fr, mutS_eq, SZ, idxV, slcV, metV, mokV, mok, inS, isiV, joiV, idxR, ixN_nat, ixN_num, binR, addR, mulR, intR, cmpR, D.tr, CM, opd, slcR, bltR, metR, hand, lent, dist, back, cnts, asgT, asgTs, D.eqv, eqvL, D.pl, plL, D.dep, depL, lockO, itemsOf, unlock, freeS, wipeS, restS, D.flat, y]
  · rw [if_neg h] at st1
    have : r = row.length := by omega
    subst this
    refine run_v (s := ⟨[.sh (.str row), .sh (ch c), .sh (nt b), .sh (.int (-1))]⟩) ⟨rfl, (show 3 ≤ 4 from by decide)⟩ (xss_go st1 ?_) rfl rfl
    simp [op2_some, ev_cst, ev_var, ev_bin, ev_neg, ev_not, ev_and, ev_or, ev_cmp, ev_chn, ev_isN, ev_notN, ev_ife, ev_tup, ev_lst, ev_idx, ev_slc, ev_call, ev_blt, ev_met, ev_joi, ev_lc, ev_isi, tst_eq, evI_eq, evs_nil, evs_cons, evF_nil, evF_cons, evo_no, evo_so, xs_asg, xs_asgT, xs_par, xs_sub, xs_exp, xs_ret, xs_retN, xs_if, xs_for, xs_whl, xs_brk, xs_rse, xs_cnt, xs_pas, xss_nil, xss_cons, itK_seq, itK_rng1, itK_rng2, itK_rng3, itK_enm, itK_zip, bind_ok, bind_bad, of_ok, fbind_nx, fbind_rt, fbind_bk, fbind_ct, ofO_some, ofS_some, cnt_v, cnt_o, cnt_b, cntS_eq, frz_v, frz_o, frz_b, fr_no, fr_sh, fr_ow, fr_le, fr_lf, fr_lk, putS_fr, mutS_eq, SZ, idxV, slcV, metV, mokV, mok, inS, isiV, joiV, idxR, ixN_nat, ixN_num, binR, addR, mulR, intR, cmpR, D.tr, CM, opd, slcR, bltR, metR, hand, lent, dist, back, cnts, asgT, asgTs, D.eqv, eqvL, D.pl, plL, D.dep, depL, lockO, itemsOf, unlock, freeS, wipeS, restS, D.flat, z1]
def Sn (c : Nat) : Prop := c = 46 ∨ c = 35
theorem flip_sn {c : Nat} (h : Sn c) : Sn (flip1 c) := by rcases h with rfl | rfl <;> simp [flip1, Sn]
theorem flip_ne {c : Nat} (h : Sn c) : flip1 c ≠ c := by rcases h with rfl | rfl <;> simp [flip1]
theorem flip_flip {c : Nat} (h : Sn c) : flip1 (flip1 c) = c := by rcases h with rfl | rfl <;> simp [flip1]
theorem sn_two {c d : Nat} (h : Sn c) (k : Sn d) : d = c ∨ d = flip1 c := by rcases h with rfl | rfl <;> rcases k with rfl | rfl <;> simp [flip1]
theorem Sg.at {row : List Nat} (h : Sg row) (i : Nat) (hi : i < row.length) : Sn (row.getD i 0) := by
  rw [List.getD_eq_getElem?_getD, List.getElem?_eq_getElem hi]; exact h _ (List.getElem_mem hi)
/-- where the row above leaves a colour, and comes back to it -/
def farF (above : List Nat) (q c : Nat) : Nat := firstF (farP above c) q above.length
def backF (above : List Nat) (far c : Nat) : Nat := firstF (isC above c) far above.length
def beginF (above : List Nat) (q c : Nat) : Nat := if 0 < q ∧ above.getD (q - 1) 0 = flip1 c then firstF (isC above c) q above.length else q
theorem far_eq (above : List Nat) (hS : Sg above) (q c : Nat) (hc : Sn c) (hq : q ≤ above.length) (h0 : q = 0 → c = 46) : firstF (isC above (flip1 c)) (beginF above q c) above.length = farF above q c := by
  have hne := flip_ne hc
  have hsn : ∀ i, i < above.length → above.getD i 0 = c ∨ above.getD i 0 = flip1 c := fun i hi => sn_two hc (hS.at i hi)
  have prev : ∀ i, 0 < i → (46 :: above).getD i 0 = above.getD (i - 1) 0 := fun i hi => by
    obtain ⟨j, rfl⟩ : ∃ j, i = j + 1 := ⟨i - 1, by omega⟩
    simp
  have hb : q ≤ beginF above q c ∧ beginF above q c ≤ above.length := by
    unfold beginF
    split
    · obtain ⟨a, b, _, _⟩ := first_spec (isC above c) q above.length hq; exact ⟨a, b⟩
    · exact ⟨Nat.le_refl _, hq⟩
  obtain ⟨a, b, g3, g4⟩ := first_spec (isC above (flip1 c)) (beginF above q c) above.length hb.2
  refine (first_uniq _ _ _ _ (by omega) b (fun i h1 h2 => ?_) (fun h => ?_)).symm
  · -- before it
    show ((above.getD i 0 != c) && ((46 :: above).getD i 0 == c)) = false
    rw [Bool.and_eq_false_iff]
    by_cases hib : i < beginF above q c
    · unfold beginF at hib
      split at hib
      · rename_i hcond
        obtain ⟨a1, b1, c1, d1⟩ := first_spec (isC above c) q above.length hq
        refine .inr ?_
        rw [beq_eq_false_iff_ne]
        by_cases hi0 : i = q
        · subst hi0; rw [prev i hcond.1, hcond.2]; exact hne
        · rw [prev i (by omega)]
          have := c1 (i - 1) (by omega) (by omega)
          simpa using this
      · omega
    · refine .inl ?_
      have := g3 i (by omega) h2
      have h3 := hsn i (by omega)
      have h4 : above.getD i 0 ≠ flip1 c := by simpa using this
      have h5 : above.getD i 0 = c := h3.resolve_right h4
      rw [h5]; simp
  · show ((above.getD _ 0 != c) && ((46 :: above).getD _ 0 == c)) = true
    have h1 := g4 h
    have h2 : above.getD (firstF (isC above (flip1 c)) (beginF above q c) above.length) 0 = flip1 c := by simpa using h1
    rw [h2, Bool.and_eq_true]
    refine ⟨by simpa using hne, ?_⟩
    rw [beq_iff_eq]
    generalize hF : firstF (isC above (flip1 c)) (beginF above q c) above.length = F at *
    by_cases hFb : F = beginF above q c
    · -- right at the begin
      unfold beginF at hFb
      split at hFb
      · rename_i hcond
        obtain ⟨a1, b1, c1, d1⟩ := first_spec (isC above c) q above.length hq
        rw [← hFb] at d1
        have : above.getD F 0 = c := by simpa using d1 h
        rw [h2] at this; exact absurd this hne
      · rename_i hcond
        subst hFb
        by_cases hq0 : F = 0
        · subst hq0; rw [h0 rfl]; rfl
        · rw [prev F (by omega)]
          rcases hsn (F - 1) (by omega) with h6 | h6
          · exact h6
          · exact absurd ⟨by omega, h6⟩ hcond
    · rw [prev F (by omega)]
      have := g3 (F - 1) (by omega) (by omega)
      have h4 : above.getD (F - 1) 0 ≠ flip1 c := by simpa using this
      exact (hsn (F - 1) (by omega)).resolve_right h4
theorem far_spec (above : List Nat) (q c : Nat) (hq : q ≤ above.length) : q ≤ farF above q c ∧ farF above q c ≤ above.length ∧ (farF above q c < above.length → above.getD (farF above q c) 0 ≠ c) := by
  obtain ⟨a, b, _, d⟩ := first_spec (farP above c) q above.length hq
  refine ⟨a, b, fun h => ?_⟩
  have := d h
  have h2 : ((above.getD (farF above q c) 0 != c) && ((46 :: above).getD (farF above q c) 0 == c)) = true := this
  rw [Bool.and_eq_true] at h2
  simpa using h2.1
/-- from a place on where another colour stands -/
theorem back_eq (row : List Nat) (p c : Nat) (hp : p ≤ row.length) (h : p < row.length → row.getD p 0 ≠ c) : firstF (isC row c) (p + 1) row.length = firstF (isC row c) p row.length := by
  by_cases hl : p < row.length
  · obtain ⟨a, b, g3, g4⟩ := first_spec (isC row c) (p + 1) row.length (by omega)
    refine (first_uniq _ _ _ _ (by omega) b (fun i h1 h2 => ?_) g4).symm
    by_cases hi : i = p
    · subst hi; simpa using h hl
    · exact g3 i (by omega) h2
  · have : p = row.length := by omega
    subst this
    unfold firstF
    simp
def edgesBody (ot pl : Nat) : Ss :=
  (.cons (.asg (.var 3) (.call ot (.cons (.var 2) .nil)))
  (.cons (.asg (.var 4) (.bin .add (.var 1) (.cst (.int 1))))
  (.cons (.iff (.and (.cmp .gt (.var 4) (.cst (.int 0))) (.cmp .eq (.idx (.var 0) (.bin .sub (.var 4) (.cst (.int 1)))) (.var 3))) (.cons (.asg (.var 4) (.call pl (.cons (.var 0) (.cons (.var 2) (.cons (.var 4) .nil)))))
  .nil) .nil)
  (.cons (.asg (.var 5) (.call pl (.cons (.var 0) (.cons (.var 3) (.cons (.var 4) .nil)))))
  (.cons (.ret (.tup (.cons (.var 5) (.cons (.call pl (.cons (.var 0) (.cons (.var 2) (.cons (.var 5) .nil)))) .nil))))
  .nil)))))
/-- the colour's and the place's defs -/
def Others (cf : Nat → List Slot → Co) (ot : Nat) : Prop := ∀ c, cf ot [.sh (ch c)] = .ok (.v (ch (flip1 c))) [.sh (ch c)]
def Places (cf : Nat → List Slot → Co) (pl : Nat) : Prop := ∀ (row : List Nat) (c b : Nat), row.length ≤ 1000 → b ≤ row.length → cf pl [.sh (.str row), .sh (ch c), .sh (nt b)] = .ok (.v (nt (firstF (isC row c) b row.length))) [.sh (.str row), .sh (ch c), .sh (nt b)]
theorem edges_run {cf : Nat → List Slot → Co} {ot pl : Nat} (ho : Others cf ot) (hp : Places cf pl) (above : List Nat) (hr : above.length ≤ 1000) (hS : Sg above) (p : Int) (q : Nat) (hpq : p + 1 = (q : Int)) (hq : q ≤ above.length) (c : Nat) (hc : Sn c) (h0 : q = 0 → c = 46) :
    runDf ⟨3, 6, edgesBody ot pl⟩ cf [.sh (.str above), .sh (.int p), .sh (ch c)] = .ok (.v (.tup [nt (farF above q c), nt (backF above (farF above q c) c)])) [.sh (.str above), .sh (.int p), .sh (ch c)] := by
  have z1 : above.length ≤ 16777216 := by omega
  have e1 := ho c
  have st1 : xs cf (.asg (.var 3) (.call ot (.cons (.var 2) .nil))) ⟨[.sh (.str above), .sh (.int p), .sh (ch c), .no, .no, .no]⟩ = .nx ⟨[.sh (.str above), .sh (.int p), .sh (ch c), .sh (ch (flip1 c)), .no, .no]⟩ := by simp [op2_some, ev_cst, ev_var, ev_bin, ev_neg, ev_not, ev_and, ev_or, ev_cmp, ev_chn, ev_isN, ev_notN, ev_ife, ev_tup, ev_lst, ev_idx, ev_slc, ev_call, ev_blt, ev_met, ev_joi, ev_lc, ev_isi, tst_eq, evI_eq, evs_nil, evs_cons, evF_nil, evF_cons, evo_no, evo_so, xs_asg, xs_asgT, xs_par, xs_sub, xs_exp, xs_ret, xs_retN, xs_if, xs_for, xs_whl, xs_brk, xs_rse, xs_cnt, xs_pas, xss_nil, xss_cons, itK_seq, itK_rng1, itK_rng2, itK_rng3, itK_enm, itK_zip, bind_ok, bind_bad, of_ok, fbind_nx, fbind_rt, fbind_bk, fbind_ct, ofO_some, ofS_some, cnt_v, cnt_o, cnt_b, cntS_eq, frz_v, frz_o, frz_b, fr_no, fr_sh, fr_ow, fr_le, fr_lf, fr_lk, putS_fr, mutS_eq, SZ, idxV, slcV, metV, mokV, mok, inS, isiV, joiV, idxR, ixN_nat, ixN_num, binR, addR, mulR, intR, cmpR, D.tr, CM, opd, slcR, bltR, metR, hand, lent, dist, back, cnts, asgT, asgTs, D.eqv, eqvL, D.pl, plL, D.dep, depL, lockO, itemsOf, unlock, freeS, wipeS, restS, D.flat, e1]
  have st2 : xs cf (.asg (.var 4) (.bin .add (.var 1) (.cst (.int 1)))) ⟨[.sh (.str above), .sh (.int p), .sh (ch c), .sh (ch (flip1 c)), .no, .no]⟩ = .nx ⟨[.sh (.str above), .sh (.int p), .sh (ch c), .sh (ch (flip1 c)), .sh (nt q), .no]⟩ := by simp [op2_some, ev_cst, ev_var, ev_bin, ev_neg, ev_not, ev_and, ev_or, ev_cmp, ev_chn, ev_isN, ev_notN, ev_ife, ev_tup, ev_lst, ev_idx, ev_slc, ev_call, ev_blt, ev_met, ev_joi, ev_lc, ev_isi, tst_eq, evI_eq, evs_nil, evs_cons, evF_nil, evF_cons, evo_no, evo_so, xs_asg, xs_asgT, xs_par, xs_sub, xs_exp, xs_ret, xs_retN, xs_if, xs_for, xs_whl, xs_brk, xs_rse, xs_cnt, xs_pas, xss_nil, xss_cons, itK_seq, itK_rng1, itK_rng2, itK_rng3, itK_enm, itK_zip, bind_ok, bind_bad, of_ok, fbind_nx, fbind_rt, fbind_bk, fbind_ct, ofO_some, ofS_some, cnt_v, cnt_o, cnt_b, cntS_eq, frz_v, frz_o, frz_b, fr_no, fr_sh, fr_ow, fr_le, fr_lf, fr_lk, putS_fr, mutS_eq, SZ, idxV, slcV, metV, mokV, mok, inS, isiV, joiV, idxR, ixN_nat, ixN_num, binR, addR, mulR, intR, cmpR, D.tr, CM, opd, slcR, bltR, metR, hand, lent, dist, back, cnts, asgT, asgTs, D.eqv, eqvL, D.pl, plL, D.dep, depL, lockO, itemsOf, unlock, freeS, wipeS, restS, D.flat, hpq]
  have hbl : beginF above q c ≤ above.length := by
    unfold beginF
    split
    · exact (first_spec (isC above c) q above.length hq).2.1
    · exact hq
  have st3 : xs cf (.iff (.and (.cmp .gt (.var 4) (.cst (.int 0))) (.cmp .eq (.idx (.var 0) (.bin .sub (.var 4) (.cst (.int 1)))) (.var 3))) (.cons (.asg (.var 4) (.call pl (.cons (.var 0) (.cons (.var 2) (.cons (.var 4) .nil))))) .nil) .nil) ⟨[.sh (.str above), .sh (.int p), .sh (ch c), .sh (ch (flip1 c)), .sh (nt q), .no]⟩ = .nx ⟨[.sh (.str above), .sh (.int p), .sh (ch c), .sh (ch (flip1 c)), .sh (nt (beginF above q c)), .no]⟩ := by
    unfold beginF
    have e2 := hp above c q hr hq
    by_cases hq0 : 0 < q
    · have e3 : (q : Int) - 1 = ((q - 1 : Nat) : Int) := by omega
      have e4 : q - 1 < above.length := by omega
      have e5 : above[q - 1] = above.getD (q - 1) 0 := by rw [List.getD_eq_getElem?_getD, List.getElem?_eq_getElem e4]; rfl
      generalize q - 1 = r at *
      generalize above.getD r 0 = d at *
      generalize firstF (isC above c) q above.length = f at *
      by_cases hd : d = flip1 c
      · rw [if_pos ⟨hq0, hd⟩]
        simp [op2_some, ev_cst, ev_var, ev_bin, ev_neg, ev_not, ev_and, ev_or, ev_cmp, ev_chn, ev_isN, ev_notN, ev_ife, ev_tup, ev_lst, ev_idx, ev_slc, ev_call, ev_blt, ev_met, ev_joi, ev_lc, ev_isi, tst_eq, evI_eq, evs_nil, evs_cons, evF_nil, evF_cons, evo_no, evo_so, xs_asg, xs_asgT, xs_par, xs_sub, xs_exp, xs_ret, xs_retN, xs_if, xs_for, xs_whl, xs_brk, xs_rse, xs_cnt, xs_pas, xss_nil, xss_cons, itK_seq, itK_rng1, itK_rng2, itK_rng3, itK_enm, itK_zip, bind_ok, bind_bad, of_ok, fbind_nx, fbind_rt, fbind_bk, fbind_ct, ofO_some, ofS_some, cnt_v, cnt_o, cnt_b, cntS_eq, frz_v, frz_o, frz_b, fr_no, fr_sh, fr_ow, fr_le, fr_lf, fr_lk, putS_fr, mutS_eq, SZ, idxV, slcV, metV, mokV, mok, inS, isiV, joiV, idxR, ixN_nat, ixN_num, binR, addR, mulR, intR, cmpR, D.tr, CM, opd, slcR, bltR, metR, hand, lent, dist, back, cnts, asgT, asgTs, D.eqv, eqvL, D.pl, plL, D.dep, depL, lockO, itemsOf, unlock, freeS, wipeS, restS, D.flat, z1, hq0, e3, e4, e5, hd, e2]
      · rw [if_neg (fun h => hd h.2)]
        simp [op2_some, ev_cst, ev_var, ev_bin, ev_neg, ev_not, ev_and, ev_or, ev_cmp, ev_chn, ev_isN, ev_notN, ev_ife, ev_tup, ev_lst, ev_idx, ev_slc, ev_call, ev_blt, ev_met, ev_joi, ev_lc, ev_isi, tst_eq, evI_eq, evs_nil, evs_cons, evF_nil, evF_cons, evo_no, evo_so, xs_asg, xs_asgT, xs_par, xs_sub, xs_exp, xs_ret, xs_retN, xs_if, xs_for, xs_whl, xs_brk, xs_rse, xs_cnt, xs_pas, xss_nil, xss_cons, itK_seq, itK_rng1, itK_rng2, itK_rng3, itK_enm, itK_zip, bind_ok, bind_bad, of_ok, fbind_nx, fbind_rt, fbind_bk, fbind_ct, ofO_some, ofS_some, cnt_v, cnt_o, cnt_b, cntS_eq, frz_v, frz_o, frz_b, fr_no, fr_sh, fr_ow, fr_le, fr_lf, fr_lk, putS_fr, mutS_eq, SZ, idxV, slcV, metV, mokV, mok, inS, isiV, joiV, idxR, ixN_nat, ixN_num, binR, addR, mulR, intR, cmpR, D.tr, CM, opd, slcR, bltR, metR, hand, lent, dist, back, cnts, asgT, asgTs, D.eqv, eqvL, D.pl, plL, D.dep, depL, lockO, itemsOf, unlock, freeS, wipeS, restS, D.flat, z1, hq0, e3, e4, e5, hd]
    · rw [if_neg (fun h => hq0 h.1)]
      simp [op2_some, ev_cst, ev_var, ev_bin, ev_neg, ev_not, ev_and, ev_or, ev_cmp, ev_chn, ev_isN, ev_notN, ev_ife, ev_tup, ev_lst, ev_idx, ev_slc, ev_call, ev_blt, ev_met, ev_joi, ev_lc, ev_isi, tst_eq, evI_eq, evs_nil, evs_cons, evF_nil, evF_cons, evo_no, evo_so, xs_asg, xs_asgT, xs_par, xs_sub, xs_exp, xs_ret, xs_retN, xs_if, xs_for, xs_whl, xs_brk, xs_rse, xs_cnt, xs_pas, xss_nil, xss_cons, itK_seq, itK_rng1, itK_rng2, itK_rng3, itK_enm, itK_zip, bind_ok, bind_bad, of_ok, fbind_nx, fbind_rt, fbind_bk, fbind_ct, ofO_some, ofS_some, cnt_v, cnt_o, cnt_b, cntS_eq, frz_v, frz_o, frz_b, fr_no, fr_sh, fr_ow, fr_le, fr_lf, fr_lk, putS_fr, mutS_eq, SZ, idxV, slcV, metV, mokV, mok, inS, isiV, joiV, idxR, ixN_nat, ixN_num, binR, addR, mulR, intR, cmpR, D.tr, CM, opd, slcR, bltR, metR, hand, lent, dist, back, cnts, asgT, asgTs, D.eqv, eqvL, D.pl, plL, D.dep, depL, lockO, itemsOf, unlock, freeS, wipeS, restS, D.flat, hq0]
  have e6 := hp above (flip1 c) (beginF above q c) hr hbl
  rw [far_eq above hS q c hc hq h0] at e6
  obtain ⟨f1, f2, f3⟩ := far_spec above q c hq
  have e7 := hp above c (farF above q c) hr f2
  unfold backF
  generalize farF above q c = far at *
  generalize beginF above q c = b at *
  have st4 : xs cf (.asg (.var 5) (.call pl (.cons (.var 0) (.cons (.var 3) (.cons (.var 4) .nil))))) ⟨[.sh (.str above), .sh (.int p), .sh (ch c), .sh (ch (flip1 c)), .sh (nt b), .no]⟩ = .nx ⟨[.sh (.str above), .sh (.int p), .sh (ch c), .sh (ch (flip1 c)), .sh (nt b), .sh (nt far)]⟩ := by simp [op2_some, ev_cst, ev_var, ev_bin, ev_neg, ev_not, ev_and, ev_or, ev_cmp, ev_chn, ev_isN, ev_notN, ev_ife, ev_tup, ev_lst, ev_idx, ev_slc, ev_call, ev_blt, ev_met, ev_joi, ev_lc, ev_isi, tst_eq, evI_eq, evs_nil, evs_cons, evF_nil, evF_cons, evo_no, evo_so, xs_asg, xs_asgT, xs_par, xs_sub, xs_exp, xs_ret, xs_retN, xs_if, xs_for, xs_whl, xs_brk, xs_rse, xs_cnt, xs_pas, xss_nil, xss_cons, itK_seq, itK_rng1, itK_rng2, itK_rng3, itK_enm, itK_zip, bind_ok, bind_bad, of_ok, fbind_nx, fbind_rt, fbind_bk, fbind_ct, ofO_some, ofS_some, cnt_v, cnt_o, cnt_b, cntS_eq, frz_v, frz_o, frz_b, fr_no, fr_sh, fr_ow, fr_le, fr_lf, fr_lk, putS_fr, mutS_eq, SZ, idxV, slcV, metV, mokV, mok, inS, isiV, joiV, idxR, ixN_nat, ixN_num, binR, addR, mulR, intR, cmpR, D.tr, CM, opd, slcR, bltR, metR, hand, lent, dist, back, cnts, asgT, asgTs, D.eqv, eqvL, D.pl, plL, D.dep, depL, lockO, itemsOf, unlock, freeS, wipeS, restS, D.flat, e6]
  refine run_v (s := ⟨[.sh (.str above), .sh (.int p), .sh (ch c), .sh (ch (flip1 c)), .sh (nt b), .sh (nt far)]⟩) ⟨rfl, (show 3 ≤ 6 from by decide)⟩ (xss_go st1 (xss_go st2 (xss_go st3 (xss_go st4 ?_)))) rfl rfl
  generalize firstF (isC above c) far above.length = bk at *
  simp [op2_some, ev_cst, ev_var, ev_bin, ev_neg, ev_not, ev_and, ev_or, ev_cmp, ev_chn, ev_isN, ev_notN, ev_ife, ev_tup, ev_lst, ev_idx, ev_slc, ev_call, ev_blt, ev_met, ev_joi, ev_lc, ev_isi, tst_eq, evI_eq, evs_nil, evs_cons, evF_nil, evF_cons, evo_no, evo_so, xs_asg, xs_asgT, xs_par, xs_sub, xs_exp, xs_ret, xs_retN, xs_if, xs_for, xs_whl, xs_brk, xs_rse, xs_cnt, xs_pas, xss_nil, xss_cons, itK_seq, itK_rng1, itK_rng2, itK_rng3, itK_enm, itK_zip, bind_ok, bind_bad, of_ok, fbind_nx, fbind_rt, fbind_bk, fbind_ct, ofO_some, ofS_some, cnt_v, cnt_o, cnt_b, cntS_eq, frz_v, frz_o, frz_b, fr_no, fr_sh, fr_ow, fr_le, fr_lf, fr_lk, putS_fr, mutS_eq, SZ, idxV, slcV, metV, mokV, mok, inS, isiV, joiV, idxR, ixN_nat, ixN_num, binR, addR, mulR, intR, cmpR, D.tr, CM, opd, slcR, bltR, metR, hand, lent, dist, back, cnts, asgT, asgTs, D.eqv, eqvL, D.pl, plL, D.dep, depL, lockO, itemsOf, unlock, freeS, wipeS, restS, D.flat, e7]
/-! a step -/
inductive Stp where
  | passed | near (d : Int) | plain (a b : Nat)
def Stp.enc : Stp → D
  | .passed => .tup [.str [112, 97, 115, 115, 101, 100]]
  | .near d => .tup [.str [110, 101, 97, 114], .int d]
  | .plain a b => .tup [.str [112, 108, 97, 105, 110], nt a, nt b]
def ownF (row : List Nat) (q c : Nat) : Nat := firstF (isC row (flip1 c)) q row.length
/-- a step from behind a place (q: the place and 1), its end, its colour -/
def stepF (above row : List Nat) (q c : Nat) : Stp × Nat × Nat :=
  if backF above (farF above q c) c < ownF row q c then (.passed, backF above (farF above q c) c, c)
  else if ownF row q c ≤ farF above q c + 3 ∧ farF above q c ≤ ownF row q c + 3 then (.near ((ownF row q c : Int) - (farF above q c : Int)), ownF row q c, flip1 c)
  else (.plain (ownF row q c - (q - 1)) (firstF (isC row c) (ownF row q c) row.length - ownF row q c), firstF (isC row c) (ownF row q c) row.length, c)
theorem step_to (above row : List Nat) (hab : above.length = row.length) (q c : Nat) (hc : Sn c) (hq : q ≤ row.length) : q ≤ (stepF above row q c).2.1 ∧ (stepF above row q c).2.1 ≤ row.length ∧ Sn (stepF above row q c).2.2 := by
  obtain ⟨f1, f2, f3⟩ := far_spec above q c (by omega)
  obtain ⟨b1, b2, _, _⟩ := first_spec (isC above c) (farF above q c) above.length f2
  obtain ⟨o1, o2⟩ : q ≤ ownF row q c ∧ ownF row q c ≤ row.length := ⟨(first_spec (isC row (flip1 c)) q row.length hq).1, (first_spec (isC row (flip1 c)) q row.length hq).2.1⟩
  obtain ⟨e1, e2, _, _⟩ := first_spec (isC row c) (ownF row q c) row.length o2
  unfold stepF
  split
  · exact ⟨by show q ≤ backF above (farF above q c) c; unfold backF; omega, by show backF above (farF above q c) c ≤ _; unfold backF; omega, hc⟩
  · split
    · exact ⟨o1, o2, flip_sn hc⟩
    · exact ⟨by show q ≤ firstF (isC row c) (ownF row q c) row.length; omega, e2, hc⟩
def stepBody (pl ot ed : Nat) : Ss :=
  (.cons (.asg (.var 4) (.call pl (.cons (.var 1) (.cons (.call ot (.cons (.var 3) .nil)) (.cons (.bin .add (.var 2) (.cst (.int 1))) .nil)))))
  (.cons (.asg (.tup (.cons (.var 5) (.cons (.var 6) .nil))) (.call ed (.cons (.var 0) (.cons (.var 2) (.cons (.var 3) .nil)))))
  (.cons (.iff (.cmp .lt (.var 6) (.var 4)) (.cons (.ret (.tup (.cons (.tup (.cons (.cst (.str [112, 97, 115, 115, 101, 100])) .nil)) (.cons (.var 6) (.cons (.var 3) .nil)))))
  .nil) .nil)
  (.cons (.iff (.cmp .le (.blt .abs (.cons (.bin .sub (.var 4) (.var 5)) .nil)) (.cst (.int 3))) (.cons (.ret (.tup (.cons (.tup (.cons (.cst (.str [110, 101, 97, 114])) (.cons (.bin .sub (.var 4) (.var 5)) .nil))) (.cons (.var 4) (.cons (.call ot (.cons (.var 3) .nil)) .nil)))))
  .nil) .nil)
  (.cons (.asg (.var 7) (.call pl (.cons (.var 1) (.cons (.var 3) (.cons (.var 4) .nil)))))
  (.cons (.ret (.tup (.cons (.tup (.cons (.cst (.str [112, 108, 97, 105, 110])) (.cons (.bin .sub (.var 4) (.blt .max2 (.cons (.var 2) (.cons (.cst (.int 0)) .nil)))) (.cons (.bin .sub (.var 7) (.var 4)) .nil)))) (.cons (.var 7) (.cons (.var 3) .nil)))))
  .nil))))))
def Edges (cf : Nat → List Slot → Co) (ed : Nat) : Prop := ∀ (above : List Nat) (p : Int) (q c : Nat), above.length ≤ 1000 → Sg above → p + 1 = (q : Int) → q ≤ above.length → Sn c → (q = 0 → c = 46) →
  cf ed [.sh (.str above), .sh (.int p), .sh (ch c)] = .ok (.v (.tup [nt (farF above q c), nt (backF above (farF above q c) c)])) [.sh (.str above), .sh (.int p), .sh (ch c)]
def stepD (r : Stp × Nat × Nat) : D := .tup [r.1.enc, nt r.2.1, ch r.2.2]
theorem step_run {cf : Nat → List Slot → Co} {pl ot ed : Nat} (hp : Places cf pl) (ho : Others cf ot) (he : Edges cf ed) (above row : List Nat) (hab : above.length = row.length) (hr : row.length ≤ 1000) (hS : Sg above) (p : Int) (q : Nat) (hpq : p + 1 = (q : Int)) (hq : q ≤ row.length) (c : Nat) (hc : Sn c) (h0 : q = 0 → c = 46) :
    runDf ⟨4, 8, stepBody pl ot ed⟩ cf [.sh (.str above), .sh (.str row), .sh (.int p), .sh (ch c)] = .ok (.v (stepD (stepF above row q c))) [.sh (.str above), .sh (.str row), .sh (.int p), .sh (ch c)] := by
  have e1 : cf pl [.sh (.str row), .sh (ch (flip1 c)), .sh (nt q)] = .ok (.v (nt (ownF row q c))) [.sh (.str row), .sh (ch (flip1 c)), .sh (nt q)] := hp row (flip1 c) q hr hq
  have e2 := ho c
  have e3 := he above p q c (by omega) hS hpq (by omega) hc h0
  obtain ⟨o1, o2⟩ : q ≤ ownF row q c ∧ ownF row q c ≤ row.length := ⟨(first_spec (isC row (flip1 c)) q row.length hq).1, (first_spec (isC row (flip1 c)) q row.length hq).2.1⟩
  have e4 := hp row c (ownF row q c) hr o2
  obtain ⟨g1, g2, _, _⟩ := first_spec (isC row c) (ownF row q c) row.length o2
  unfold stepF
  generalize backF above (farF above q c) c = bk at *
  generalize farF above q c = far at *
  generalize firstF (isC row c) (ownF row q c) row.length = en at *
  generalize ownF row q c = own at *
  have st1 : xs cf (.asg (.var 4) (.call pl (.cons (.var 1) (.cons (.call ot (.cons (.var 3) .nil)) (.cons (.bin .add (.var 2) (.cst (.int 1))) .nil))))) ⟨[.sh (.str above), .sh (.str row), .sh (.int p), .sh (ch c), .no, .no, .no, .no]⟩ = .nx ⟨[.sh (.str above), .sh (.str row), .sh (.int p), .sh (ch c), .sh (nt own), .no, .no, .no]⟩ := by simp [op2_some, ev_cst, ev_var, ev_bin, ev_neg, ev_not, ev_and, ev_or, ev_cmp, ev_chn, ev_isN, ev_notN, ev_ife, ev_tup, ev_lst, ev_idx, ev_slc, ev_call, ev_blt, ev_met, ev_joi, ev_lc, ev_isi, tst_eq, evI_eq, evs_nil, evs_cons, evF_nil, evF_cons, evo_no, evo_so, xs_asg, xs_asgT, xs_par, xs_sub, xs_exp, xs_ret, xs_retN, xs_if, xs_for, xs_whl, xs_brk, xs_rse, xs_cnt, xs_pas, xss_nil, xss_cons, itK_seq, itK_rng1, itK_rng2, itK_rng3, itK_enm, itK_zip, bind_ok, bind_bad, of_ok, fbind_nx, fbind_rt, fbind_bk, fbind_ct, ofO_some, ofS_some, cnt_v, cnt_o, cnt_b, cntS_eq, frz_v, frz_o, frz_b, fr_no, fr_sh, fr_ow, fr_le, fr_lf, fr_lk, putS_fr, mutS_eq, SZ, idxV, slcV, metV, mokV, mok, inS, isiV, joiV, idxR, ixN_nat, ixN_num, binR, addR, mulR, intR, cmpR, D.tr, CM, opd, slcR, bltR, metR, hand, lent, dist, back, cnts, asgT, asgTs, D.eqv, eqvL, D.pl, plL, D.dep, depL, lockO, itemsOf, unlock, freeS, wipeS, restS, D.flat, e1, e2, hpq]
  have st2 : xs cf (.asg (.tup (.cons (.var 5) (.cons (.var 6) .nil))) (.call ed (.cons (.var 0) (.cons (.var 2) (.cons (.var 3) .nil))))) ⟨[.sh (.str above), .sh (.str row), .sh (.int p), .sh (ch c), .sh (nt own), .no, .no, .no]⟩ = .nx ⟨[.sh (.str above), .sh (.str row), .sh (.int p), .sh (ch c), .sh (nt own), .sh (nt far), .sh (nt bk), .no]⟩ := by simp [op2_some, ev_cst, ev_var, ev_bin, ev_neg, ev_not, ev_and, ev_or, ev_cmp, ev_chn, ev_isN, ev_notN, ev_ife, ev_tup, ev_lst, ev_idx, ev_slc, ev_call, ev_blt, ev_met, ev_joi, ev_lc, ev_isi, tst_eq, evI_eq, evs_nil, evs_cons, evF_nil, evF_cons, evo_no, evo_so, xs_asg, xs_asgT, xs_par, xs_sub, xs_exp, xs_ret, xs_retN, xs_if, xs_for, xs_whl, xs_brk, xs_rse, xs_cnt, xs_pas, xss_nil, xss_cons, itK_seq, itK_rng1, itK_rng2, itK_rng3, itK_enm, itK_zip, bind_ok, bind_bad, of_ok, fbind_nx, fbind_rt, fbind_bk, fbind_ct, ofO_some, ofS_some, cnt_v, cnt_o, cnt_b, cntS_eq, frz_v, frz_o, frz_b, fr_no, fr_sh, fr_ow, fr_le, fr_lf, fr_lk, putS_fr, mutS_eq, SZ, idxV, slcV, metV, mokV, mok, inS, isiV, joiV, idxR, ixN_nat, ixN_num, binR, addR, mulR, intR, cmpR, D.tr, CM, opd, slcR, bltR, metR, hand, lent, dist, back, cnts, asgT, asgTs, D.eqv, eqvL, D.pl, plL, D.dep, depL, lockO, itemsOf, unlock, freeS, wipeS, restS, D.flat, e3]
  by_cases h1 : bk < own
  · rw [if_pos h1]
    refine run_v (s := ⟨[.sh (.str above), .sh (.str row), .sh (.int p), .sh (ch c), .sh (nt own), .sh (nt far), .sh (nt bk), .no]⟩) ⟨rfl, (show 4 ≤ 8 from by decide)⟩ (xss_go st1 (xss_go st2 ?_)) rfl rfl
    simp [op2_some, ev_cst, ev_var, ev_bin, ev_neg, ev_not, ev_and, ev_or, ev_cmp, ev_chn, ev_isN, ev_notN, ev_ife, ev_tup, ev_lst, ev_idx, ev_slc, ev_call, ev_blt, ev_met, ev_joi, ev_lc, ev_isi, tst_eq, evI_eq, evs_nil, evs_cons, evF_nil, evF_cons, evo_no, evo_so, xs_asg, xs_asgT, xs_par, xs_sub, xs_exp, xs_ret, xs_retN, xs_if, xs_for, xs_whl, xs_brk, xs_rse, xs_cnt, xs_pas, xss_nil, xss_cons, itK_seq, itK_rng1, itK_rng2, itK_rng3, itK_enm, itK_zip, bind_ok, bind_bad, of_ok, fbind_nx, fbind_rt, fbind_bk, fbind_ct, ofO_some, ofS_some, cnt_v, cnt_o, cnt_b, cntS_eq, frz_v, frz_o, frz_b, fr_no, fr_sh, fr_ow, fr_le, fr_lf, fr_lk, putS_fr, mutS_eq, SZ, idxV, slcV, metV, mokV, mok, inS, isiV, joiV, idxR, ixN_nat, ixN_num, binR, addR, mulR, intR, cmpR, D.tr, CM, opd, slcR, bltR, metR, hand, lent, dist, back, cnts, asgT, asgTs, D.eqv, eqvL, D.pl, plL, D.dep, depL, lockO, itemsOf, unlock, freeS, wipeS, restS, D.flat, h1, stepD, Stp.enc]
  · rw [if_neg h1]
    have st3 : xs cf (.iff (.cmp .lt (.var 6) (.var 4)) (.cons (.ret (.tup (.cons (.tup (.cons (.cst (.str [112, 97, 115, 115, 101, 100])) .nil)) (.cons (.var 6) (.cons (.var 3) .nil))))) .nil) .nil) ⟨[.sh (.str above), .sh (.str row), .sh (.int p), .sh (ch c), .sh (nt own), .sh (nt far), .sh (nt bk), .no]⟩ = .nx ⟨[.sh (.str above), .sh (.str row), .sh (.int p), .sh (ch c), .sh (nt own), .sh (nt far), .sh (nt bk), .no]⟩ := if_f (by simp [op2_some, ev_cst, ev_var, ev_bin, ev_neg, ev_not, ev_and, ev_or, ev_cmp, ev_chn, ev_isN, ev_notN, ev_ife, ev_tup, ev_lst, ev_idx, ev_slc, ev_call, ev_blt, ev_met, ev_joi, ev_lc, ev_isi, tst_eq, evI_eq, evs_nil, evs_cons, evF_nil, evF_cons, evo_no, evo_so, xs_asg, xs_asgT, xs_par, xs_sub, xs_exp, xs_ret, xs_retN, xs_if, xs_for, xs_whl, xs_brk, xs_rse, xs_cnt, xs_pas, xss_nil, xss_cons, itK_seq, itK_rng1, itK_rng2, itK_rng3, itK_enm, itK_zip, bind_ok, bind_bad, of_ok, fbind_nx, fbind_rt, fbind_bk, fbind_ct, ofO_some, ofS_some, cnt_v, cnt_o, cnt_b, cntS_eq, frz_v, frz_o, frz_b, fr_no, fr_sh, fr_ow, fr_le, fr_lf, fr_lk, putS_fr, mutS_eq, SZ, idxV, slcV, metV, mokV, mok, inS, isiV, joiV, idxR, ixN_nat, ixN_num, binR, addR, mulR, intR, cmpR, D.tr, CM, opd, slcR, bltR, metR, hand, lent, dist, back, cnts, asgT, asgTs, D.eqv, eqvL, D.pl, plL, D.dep, depL, lockO, itemsOf, unlock, freeS, wipeS, restS, D.flat, h1]) rfl
    have hab' : tst (ev cf (.cmp .le (.blt .abs (.cons (.bin .sub (.var 4) (.var 5)) .nil)) (.cst (.int 3)))) ⟨[.sh (.str above), .sh (.str row), .sh (.int p), .sh (ch c), .sh (nt own), .sh (nt far), .sh (nt bk), .no]⟩ = .ok (decide (own ≤ far + 3 ∧ far ≤ own + 3)) ⟨[.sh (.str above), .sh (.str row), .sh (.int p), .sh (ch c), .sh (nt own), .sh (nt far), .sh (nt bk), .no]⟩ := by
      have : decide ((if (own : Int) - (far : Int) < 0 then -((own : Int) - (far : Int)) else (own : Int) - (far : Int)) ≤ 3) = decide (own ≤ far + 3 ∧ far ≤ own + 3) := by
        rw [decide_eq_decide]; split <;> omega
      rw [← this]
      simp only [op2_some, ev_cst, ev_var, ev_bin, ev_neg, ev_not, ev_and, ev_or, ev_cmp, ev_chn, ev_isN, ev_notN, ev_ife, ev_tup, ev_lst, ev_idx, ev_slc, ev_call, ev_blt, ev_met, ev_joi, ev_lc, ev_isi, tst_eq, evI_eq, evs_nil, evs_cons, evF_nil, evF_cons, evo_no, evo_so, xs_asg, xs_asgT, xs_par, xs_sub, xs_exp, xs_ret, xs_retN, xs_if, xs_for, xs_whl, xs_brk, xs_rse, xs_cnt, xs_pas, xss_nil, xss_cons, itK_seq, itK_rng1, itK_rng2, itK_rng3, itK_enm, itK_zip, bind_ok, bind_bad, of_ok, fbind_nx, fbind_rt, fbind_bk, fbind_ct, ofO_some, ofS_some, cnt_v, cnt_o, cnt_b, cntS_eq, frz_v, frz_o, frz_b, fr_no, fr_sh, fr_ow, fr_le, fr_lf, fr_lk, putS_fr, mutS_eq, SZ, idxV, slcV, metV, mokV, mok, inS, isiV, joiV, idxR, ixN_nat, ixN_num, binR, addR, mulR, intR, cmpR, D.tr, CM, opd, slcR, bltR, metR, hand, lent, dist, back, cnts, asgT, asgTs, D.eqv, eqvL, D.pl, plL, D.dep, depL, lockO, itemsOf, unlock, freeS, wipeS, restS, D.flat]; rfl
    by_cases h2 : own ≤ far + 3 ∧ far ≤ own + 3
    · rw [if_pos h2]
      rw [decide_eq_true h2] at hab'
      refine run_v (s := ⟨[.sh (.str above), .sh (.str row), .sh (.int p), .sh (ch c), .sh (nt own), .sh (nt far), .sh (nt bk), .no]⟩) ⟨rfl, (show 4 ≤ 8 from by decide)⟩ (xss_go st1 (xss_go st2 (xss_go st3 (rt_go (if_t hab' ?_))))) rfl rfl
      simp [op2_some, ev_cst, ev_var, ev_bin, ev_neg, ev_not, ev_and, ev_or, ev_cmp, ev_chn, ev_isN, ev_notN, ev_ife, ev_tup, ev_lst, ev_idx, ev_slc, ev_call, ev_blt, ev_met, ev_joi, ev_lc, ev_isi, tst_eq, evI_eq, evs_nil, evs_cons, evF_nil, evF_cons, evo_no, evo_so, xs_asg, xs_asgT, xs_par, xs_sub, xs_exp, xs_ret, xs_retN, xs_if, xs_for, xs_whl, xs_brk, xs_rse, xs_cnt, xs_pas, xss_nil, xss_cons, itK_seq, itK_rng1, itK_rng2, itK_rng3, itK_enm, itK_zip, bind_ok, bind_bad, of_ok, fbind_nx, fbind_rt, fbind_bk, fbind_ct, ofO_some, ofS_some, cnt_v, cnt_o, cnt_b, cntS_eq, frz_v, frz_o, frz_b, fr_no, fr_sh, fr_ow, fr_le, fr_lf, fr_lk, putS_fr, mutS_eq, SZ, idxV, slcV, metV, mokV, mok, inS, isiV, joiV, idxR, ixN_nat, ixN_num, binR, addR, mulR, intR, cmpR, D.tr, CM, opd, slcR, bltR, metR, hand, lent, dist, back, cnts, asgT, asgTs, D.eqv, eqvL, D.pl, plL, D.dep, depL, lockO, itemsOf, unlock, freeS, wipeS, restS, D.flat, e2, stepD, Stp.enc]
    · rw [if_neg h2]
      rw [decide_eq_false h2] at hab'
      have st5 : xs cf (.asg (.var 7) (.call pl (.cons (.var 1) (.cons (.var 3) (.cons (.var 4) .nil))))) ⟨[.sh (.str above), .sh (.str row), .sh (.int p), .sh (ch c), .sh (nt own), .sh (nt far), .sh (nt bk), .no]⟩ = .nx ⟨[.sh (.str above), .sh (.str row), .sh (.int p), .sh (ch c), .sh (nt own), .sh (nt far), .sh (nt bk), .sh (nt en)]⟩ := by simp [op2_some, ev_cst, ev_var, ev_bin, ev_neg, ev_not, ev_and, ev_or, ev_cmp, ev_chn, ev_isN, ev_notN, ev_ife, ev_tup, ev_lst, ev_idx, ev_slc, ev_call, ev_blt, ev_met, ev_joi, ev_lc, ev_isi, tst_eq, evI_eq, evs_nil, evs_cons, evF_nil, evF_cons, evo_no, evo_so, xs_asg, xs_asgT, xs_par, xs_sub, xs_exp, xs_ret, xs_retN, xs_if, xs_for, xs_whl, xs_brk, xs_rse, xs_cnt, xs_pas, xss_nil, xss_cons, itK_seq, itK_rng1, itK_rng2, itK_rng3, itK_enm, itK_zip, bind_ok, bind_bad, of_ok, fbind_nx, fbind_rt, fbind_bk, fbind_ct, ofO_some, ofS_some, cnt_v, cnt_o, cnt_b, cntS_eq, frz_v, frz_o, frz_b, fr_no, fr_sh, fr_ow, fr_le, fr_lf, fr_lk, putS_fr, mutS_eq, SZ, idxV, slcV, metV, mokV, mok, inS, isiV, joiV, idxR, ixN_nat, ixN_num, binR, addR, mulR, intR, cmpR, D.tr, CM, opd, slcR, bltR, metR, hand, lent, dist, back, cnts, asgT, asgTs, D.eqv, eqvL, D.pl, plL, D.dep, depL, lockO, itemsOf, unlock, freeS, wipeS, restS, D.flat, e4]
      refine run_v (s := ⟨[.sh (.str above), .sh (.str row), .sh (.int p), .sh (ch c), .sh (nt own), .sh (nt far), .sh (nt bk), .sh (nt en)]⟩) ⟨rfl, (show 4 ≤ 8 from by decide)⟩ (xss_go st1 (xss_go st2 (xss_go st3 (xss_go (if_f hab' rfl) (xss_go st5 ?_))))) rfl rfl
      have y1 : (en : Int) - (own : Int) = ((en - own : Nat) : Int) := by omega
      have y2 : (own : Int) - (if (0 : Int) > p then 0 else p) = ((own - (q - 1) : Nat) : Int) := by split <;> omega
      generalize en - own = a at *
      generalize own - (q - 1) = b at *
      by_cases y3 : p < 0
      · rw [if_pos y3] at y2
        simp [op2_some, ev_cst, ev_var, ev_bin, ev_neg, ev_not, ev_and, ev_or, ev_cmp, ev_chn, ev_isN, ev_notN, ev_ife, ev_tup, ev_lst, ev_idx, ev_slc, ev_call, ev_blt, ev_met, ev_joi, ev_lc, ev_isi, tst_eq, evI_eq, evs_nil, evs_cons, evF_nil, evF_cons, evo_no, evo_so, xs_asg, xs_asgT, xs_par, xs_sub, xs_exp, xs_ret, xs_retN, xs_if, xs_for, xs_whl, xs_brk, xs_rse, xs_cnt, xs_pas, xss_nil, xss_cons, itK_seq, itK_rng1, itK_rng2, itK_rng3, itK_enm, itK_zip, bind_ok, bind_bad, of_ok, fbind_nx, fbind_rt, fbind_bk, fbind_ct, ofO_some, ofS_some, cnt_v, cnt_o, cnt_b, cntS_eq, frz_v, frz_o, frz_b, fr_no, fr_sh, fr_ow, fr_le, fr_lf, fr_lk, putS_fr, mutS_eq, SZ, idxV, slcV, metV, mokV, mok, inS, isiV, joiV, idxR, ixN_nat, ixN_num, binR, addR, mulR, intR, cmpR, D.tr, CM, opd, slcR, bltR, metR, hand, lent, dist, back, cnts, asgT, asgTs, D.eqv, eqvL, D.pl, plL, D.dep, depL, lockO, itemsOf, unlock, freeS, wipeS, restS, D.flat, stepD, Stp.enc, y1, y3]; omega
      · rw [if_neg y3] at y2
        simp [op2_some, ev_cst, ev_var, ev_bin, ev_neg, ev_not, ev_and, ev_or, ev_cmp, ev_chn, ev_isN, ev_notN, ev_ife, ev_tup, ev_lst, ev_idx, ev_slc, ev_call, ev_blt, ev_met, ev_joi, ev_lc, ev_isi, tst_eq, evI_eq, evs_nil, evs_cons, evF_nil, evF_cons, evo_no, evo_so, xs_asg, xs_asgT, xs_par, xs_sub, xs_exp, xs_ret, xs_retN, xs_if, xs_for, xs_whl, xs_brk, xs_rse, xs_cnt, xs_pas, xss_nil, xss_cons, itK_seq, itK_rng1, itK_rng2, itK_rng3, itK_enm, itK_zip, bind_ok, bind_bad, of_ok, fbind_nx, fbind_rt, fbind_bk, fbind_ct, ofO_some, ofS_some, cnt_v, cnt_o, cnt_b, cntS_eq, frz_v, frz_o, frz_b, fr_no, fr_sh, fr_ow, fr_le, fr_lf, fr_lk, putS_fr, mutS_eq, SZ, idxV, slcV, metV, mokV, mok, inS, isiV, joiV, idxR, ixN_nat, ixN_num, binR, addR, mulR, intR, cmpR, D.tr, CM, opd, slcR, bltR, metR, hand, lent, dist, back, cnts, asgT, asgTs, D.eqv, eqvL, D.pl, plL, D.dep, depL, lockO, itemsOf, unlock, freeS, wipeS, restS, D.flat, stepD, Stp.enc, y1, y2, y3]
/-! all steps -/
def stepsG (above row : List Nat) : Nat → Nat → Nat → List (Stp × Nat)
  | 0, _, _ => []
  | f + 1, q, c => if q ≤ row.length then ((stepF above row q c).1, c) :: stepsG above row f ((stepF above row q c).2.1 + 1) (stepF above row q c).2.2 else []
theorem stepsG_end (above row : List Nat) (f q c : Nat) (h : ¬ q ≤ row.length) : stepsG above row f q c = [] := by
  cases f with
  | zero => rfl
  | succ f => unfold stepsG; rw [if_neg h]
theorem stepsG_len (above row : List Nat) : ∀ f q c, (stepsG above row f q c).length ≤ f
  | 0, _, _ => Nat.le_refl _
  | f + 1, q, c => by
    unfold stepsG
    split
    · have := stepsG_len above row f ((stepF above row q c).2.1 + 1) (stepF above row q c).2.2
      rw [List.length_cons]; omega
    · exact Nat.zero_le _
def allSteps (above row : List Nat) : List (Stp × Nat) := stepsG above row (row.length + 1) 0 46
def aboveB (sf : Nat) : Ss := (.cons (.asg (.tup (.cons (.var 5) (.cons (.var 3) (.cons (.var 4) .nil)))) (.call sf (.cons (.var 0) (.cons (.var 1) (.cons (.var 3) (.cons (.var 4) .nil))))))
  (.cons (.exp (.met .append (.var 2) (.cons (.var 5) .nil)))
  .nil))
def aboveBody (sf : Nat) : Ss :=
  (.cons (.asg (.var 2) (.lst .nil))
  (.cons (.asg (.var 3) (.neg (.cst (.int 1))))
  (.cons (.asg (.var 4) (.cst (.str [46])))
  (.cons (.whl (.cmp .lt (.var 3) (.blt .len (.cons (.var 1) .nil))) (aboveB sf))
  (.cons (.ret (.var 2))
  .nil)))))
def Steps (cf : Nat → List Slot → Co) (sf : Nat) : Prop := ∀ (above row : List Nat) (p : Int) (q c : Nat), above.length = row.length → row.length ≤ 1000 → Sg above → p + 1 = (q : Int) → q ≤ row.length → Sn c → (q = 0 → c = 46) →
  cf sf [.sh (.str above), .sh (.str row), .sh (.int p), .sh (ch c)] = .ok (.v (stepD (stepF above row q c))) [.sh (.str above), .sh (.str row), .sh (.int p), .sh (ch c)]
abbrev e1 (x : Stp × Nat) : D := x.1.enc
theorem above_run {cf : Nat → List Slot → Co} {sf : Nat} (hs : Steps cf sf) (above row : List Nat) (hab : above.length = row.length) (hr : row.length ≤ 1000) (hS : Sg above) :
    runDf ⟨2, 6, aboveBody sf⟩ cf [.sh (.str above), .sh (.str row)] = .ok (.o ((allSteps above row).map e1)) [.sh (.str above), .sh (.str row)] := by
  have z1 : row.length ≤ 16777216 := by omega
  obtain ⟨s', ⟨p, c, x5, f5, rfl⟩, hw⟩ := whl_go (cf := cf) (c := .cmp .lt (.var 3) (.blt .len (.cons (.var 1) .nil))) (b := aboveB sf) (s := ⟨[.sh (.str above), .sh (.str row), .ow [], .sh (.int (-1)), .sh (ch 46), .no]⟩)
    (fun m s => ∃ (p : Int) (q c f : Nat) (acc : List (Stp × Nat)) (x5 : Slot), fr x5 = true ∧ p + 1 = (q : Int) ∧ q ≤ row.length + 1 ∧ Sn c ∧ (q = 0 → c = 46) ∧ m = row.length + 1 - q ∧ row.length + 1 - q ≤ f ∧ f + acc.length ≤ 1001 ∧ acc ++ stepsG above row f q c = allSteps above row ∧ s = ⟨[.sh (.str above), .sh (.str row), .ow (acc.map e1), .sh (.int p), .sh (ch c), x5]⟩)
    (fun s => ∃ (p : Int) (c : Nat) (x5 : Slot), fr x5 = true ∧ s = ⟨[.sh (.str above), .sh (.str row), .ow ((allSteps above row).map e1), .sh (.int p), .sh (ch c), x5]⟩)
    (fun m s ⟨p, q, c, f, acc, x5, f5, hp, hq, hc, h0, hm, hf, hfl, hacc, e⟩ => by
      subst e
      have ec : tst (ev cf (.cmp .lt (.var 3) (.blt .len (.cons (.var 1) .nil)))) ⟨[.sh (.str above), .sh (.str row), .ow (acc.map e1), .sh (.int p), .sh (ch c), x5]⟩ = .ok (decide (p < (row.length : Int))) ⟨[.sh (.str above), .sh (.str row), .ow (acc.map e1), .sh (.int p), .sh (ch c), x5]⟩ := by
        simp [op2_some, ev_cst, ev_var, ev_bin, ev_neg, ev_not, ev_and, ev_or, ev_cmp, ev_chn, ev_isN, ev_notN, ev_ife, ev_tup, ev_lst, ev_idx, ev_slc, ev_call, ev_blt, ev_met, ev_joi, ev_lc, ev_isi, tst_eq, evI_eq, evs_nil, evs_cons, evF_nil, evF_cons, evo_no, evo_so, xs_asg, xs_asgT, xs_par, xs_sub, xs_exp, xs_ret, xs_retN, xs_if, xs_for, xs_whl, xs_brk, xs_rse, xs_cnt, xs_pas, xss_nil, xss_cons, itK_seq, itK_rng1, itK_rng2, itK_rng3, itK_enm, itK_zip, bind_ok, bind_bad, of_ok, fbind_nx, fbind_rt, fbind_bk, fbind_ct, ofO_some, ofS_some, cnt_v, cnt_o, cnt_b, cntS_eq, frz_v, frz_o, frz_b, fr_no, fr_sh, fr_ow, fr_le, fr_lf, fr_lk, putS_fr, mutS_eq, SZ, idxV, slcV, metV, mokV, mok, inS, isiV, joiV, idxR, ixN_nat, ixN_num, binR, addR, mulR, intR, cmpR, D.tr, CM, opd, slcR, bltR, metR, hand, lent, dist, back, cnts, asgT, asgTs, D.eqv, eqvL, D.pl, plL, D.dep, depL, lockO, itemsOf, unlock, freeS, wipeS, restS, D.flat, z1]
      by_cases hql : q ≤ row.length
      · obtain ⟨t1, t2, t3⟩ := step_to above row hab q c hc hql
        have hst := hs above row p q c hab hr hS hp hql hc h0
        obtain ⟨f, rfl⟩ : ∃ f', f = f' + 1 := ⟨f - 1, by omega⟩
        unfold stepsG at hacc
        rw [if_pos hql] at hacc
        generalize stepF above row q c = r at *
        obtain ⟨st, p', c'⟩ := r
        dsimp only at t1 t2 t3 hacc
        unfold stepD at hst
        dsimp only at hst
        have l1 : (acc.map e1).length < 16777216 := by rw [List.length_map]; omega
        refine .inr ⟨_, ⟨[.sh (.str above), .sh (.str row), .ow ((acc ++ [(st, c)]).map e1), .sh (nt p'), .sh (ch c'), .sh st.enc]⟩, row.length + 1 - (p' + 1), by omega, by rw [ec, decide_eq_true (by omega)], .inl ?_, p', p' + 1, c', f, acc ++ [(st, c)], _, rfl, rfl, by omega, t3, by omega, rfl, by omega, by simp; omega, by rw [List.append_assoc]; exact hacc, rfl⟩
        rw [List.map_append]
        generalize acc.map e1 = L at *
        have l2 : L.length ≤ 16777215 := by omega
        unfold aboveB
        simp [op2_some, ev_cst, ev_var, ev_bin, ev_neg, ev_not, ev_and, ev_or, ev_cmp, ev_chn, ev_isN, ev_notN, ev_ife, ev_tup, ev_lst, ev_idx, ev_slc, ev_call, ev_blt, ev_met, ev_joi, ev_lc, ev_isi, tst_eq, evI_eq, evs_nil, evs_cons, evF_nil, evF_cons, evo_no, evo_so, xs_asg, xs_asgT, xs_par, xs_sub, xs_exp, xs_ret, xs_retN, xs_if, xs_for, xs_whl, xs_brk, xs_rse, xs_cnt, xs_pas, xss_nil, xss_cons, itK_seq, itK_rng1, itK_rng2, itK_rng3, itK_enm, itK_zip, bind_ok, bind_bad, of_ok, fbind_nx, fbind_rt, fbind_bk, fbind_ct, ofO_some, ofS_some, cnt_v, cnt_o, cnt_b, cntS_eq, frz_v, frz_o, frz_b, fr_no, fr_sh, fr_ow, fr_le, fr_lf, fr_lk, putS_fr, mutS_eq, SZ, idxV, slcV, metV, mokV, mok, inS, isiV, joiV, idxR, ixN_nat, ixN_num, binR, addR, mulR, intR, cmpR, D.tr, CM, opd, slcR, bltR, metR, hand, lent, dist, back, cnts, asgT, asgTs, D.eqv, eqvL, D.pl, plL, D.dep, depL, lockO, itemsOf, unlock, freeS, wipeS, restS, D.flat, hst, f5, l1, l2]
      · rw [stepsG_end _ _ _ _ _ hql, List.append_nil] at hacc
        subst hacc
        exact .inl ⟨_, by rw [ec, decide_eq_false (by omega)], p, c, x5, f5, rfl⟩)
    (m := row.length + 1 - 0) ⟨-1, 0, 46, row.length + 1, [], .no, rfl, rfl, by omega, .inl rfl, fun _ => rfl, rfl, by omega, by simp; omega, rfl, rfl⟩ (by omega)
  exact run_o (s := ⟨[.sh (.str above), .sh (.str row), .no, .sh (.int p), .sh (ch c), x5]⟩) ⟨rfl, (show 2 ≤ 6 from by decide)⟩ (xss_go (s1 := ⟨[.sh (.str above), .sh (.str row), .ow [], .no, .no, .no]⟩) rfl (xss_go (s1 := ⟨[.sh (.str above), .sh (.str row), .ow [], .sh (.int (-1)), .no, .no]⟩) rfl (xss_go (s1 := ⟨[.sh (.str above), .sh (.str row), .ow [], .sh (.int (-1)), .sh (ch 46), .no]⟩) rfl (xss_go hw rfl)))) rfl rfl
end Z

/-! Z: the laws' pairs of rows, and their steps. -/
namespace Z
theorem brd_le {cf : Nat → List Slot → Co} {dr v : Nat} (hd : Draws cf dr) {l : List Slot} {g : Int × Int} (hl : l[v]? = some (.le (bg g))) (a b c w : Nat) (hc : 0 < c) (hc2 : c ≤ 1000) : ∃ (n : Nat) (g' : Int × Int), (n = a ∨ n = b ∨ w ≤ n ∧ n < w + c) ∧
    ev cf (.idx (.lst (.cons (.cst (.int (a : Int))) (.cons (.cst (.int (b : Int))) (.cons (.bin .add (.cst (.int (w : Int))) (.call dr (.cons (.var v) (.cons (.cst (.int (c : Int))) .nil)))) (.cons (.bin .add (.cst (.int (w : Int))) (.call dr (.cons (.var v) (.cons (.cst (.int (c : Int))) .nil)))) .nil))))) (.call dr (.cons (.var v) (.cons (.cst (.int 4)) .nil)))) ⟨l⟩
    = .ok (.v (.int (n : Int))) ⟨l.set v (.le (bg g'))⟩ := by
  have d1 := add_run (a := (w : Int)) (draw_le hd (e := .cst (.int (c : Int))) hl (l' := l) rfl hl (by omega) (by omega))
  have d2 := add_run (a := (w : Int)) (draw_le hd (e := .cst (.int (c : Int))) (at_set (y := .le (bg (drawS g (c : Int)))) hl) rfl (at_set hl) (by omega) (by omega))
  have d3 := draw_le hd (e := .cst (.int 4)) (at_set (y := .le (bg (drawS (drawS g (c : Int)) (c : Int)))) (at_set (y := .le (bg (drawS g (c : Int)))) hl)) rfl (at_set (at_set hl)) (by omega) (by omega)
  have b1 := drawV_lt g (m := (c : Int)) (by omega)
  have b2 := drawV_lt (drawS g (c : Int)) (m := (c : Int)) (by omega)
  have b3 := drawV_lt (drawS (drawS g (c : Int)) (c : Int)) (m := 4) (by omega)
  obtain ⟨m1, h1⟩ := Int.eq_ofNat_of_zero_le b1.1
  obtain ⟨m2, h2⟩ := Int.eq_ofNat_of_zero_le b2.1
  rw [List.set_set] at d2 d3
  rw [List.set_set] at d3
  have c3 : drawV (drawS (drawS g (c : Int)) (c : Int)) 4 = 0 ∨ drawV (drawS (drawS g (c : Int)) (c : Int)) 4 = 1 ∨ drawV (drawS (drawS g (c : Int)) (c : Int)) 4 = 2 ∨ drawV (drawS (drawS g (c : Int)) (c : Int)) 4 = 3 := by omega
  have L := lst_go (evF_v (rfl : ev cf (.cst (.int (a : Int))) ⟨l⟩ = .ok (.v (.int (a : Int))) ⟨l⟩) (evF_v (rfl : ev cf (.cst (.int (b : Int))) ⟨l⟩ = .ok (.v (.int (b : Int))) ⟨l⟩) (evF_v d1 (evF_v d2 (rfl : evF cf .nil _ = .ok [] _))))) (show 4 ≤ 1000 by decide)
  rcases c3 with c3 | c3 | c3 | c3
  · exact ⟨a, _, .inl rfl, idx_go L d3 rfl rfl (by rw [c3]; rfl)⟩
  · exact ⟨b, _, .inr (.inl rfl), idx_go L d3 rfl rfl (by rw [c3]; rfl)⟩
  · exact ⟨w + m1, _, .inr (.inr (by omega)), idx_go L d3 rfl rfl (by rw [c3, h1]; rfl)⟩
  · exact ⟨w + m2, _, .inr (.inr (by omega)), idx_go L d3 rfl rfl (by rw [c3, h2]; rfl)⟩
def Rows (cf : Nat → List Slot → Co) (rw : Nat) : Prop := ∀ (b : Nat) (above : List Nat) (g : Int × Int), 1 ≤ b → b ≤ 1000 → above.length = b → Sg above → ∃ (row : List Nat) (g' : Int × Int), row.length = b ∧ Sg row ∧
  cf rw [.le (bg g), .sh (nt b), .sh (.str above)] = .ok (.v (.str row)) [.le (bg g'), .sh (nt b), .sh (.str above)]
def slideE (dr : Nat) : Ex := (.bin .sub (.call dr (.cons (.var 0) (.cons (.cst (.int 9)) .nil))) (.cst (.int 4)))
def placeB (dr : Nat) : Ss := (.cons (.iff (.cmp .eq (.call dr (.cons (.var 0) (.cons (.cst (.int 6)) .nil))) (.cst (.int 0))) (.cons (.asg (.var 4) (slideE dr))
  .nil) .nil)
  (.cons (.asg (.var 3) (.bin .add (.var 3) (.idx (.var 2) (.blt .max2 (.cons (.cst (.int 0)) (.cons (.blt .min2 (.cons (.bin .sub (.var 1) (.cst (.int 1))) (.cons (.bin .add (.var 5) (.var 4)) .nil))) .nil))))))
  .nil))
def pairBody (dr rw : Nat) : Ss :=
  (.cons (.asg (.var 1) (.idx (.lst (.cons (.cst (.int 8)) (.cons (.cst (.int 64)) (.cons (.bin .add (.cst (.int 8)) (.call dr (.cons (.var 0) (.cons (.cst (.int 57)) .nil)))) (.cons (.bin .add (.cst (.int 8)) (.call dr (.cons (.var 0) (.cons (.cst (.int 57)) .nil)))) .nil))))) (.call dr (.cons (.var 0) (.cons (.cst (.int 4)) .nil)))))
  (.cons (.asg (.var 2) (.call rw (.cons (.var 0) (.cons (.var 1) (.cons (.bin .mul (.cst (.str [46])) (.var 1)) .nil)))))
  (.cons (.iff (.cmp .eq (.call dr (.cons (.var 0) (.cons (.cst (.int 2)) .nil))) (.cst (.int 0))) (.cons (.ret (.lst (.cons (.var 2) (.cons (.call rw (.cons (.var 0) (.cons (.var 1) (.cons (.var 2) .nil)))) .nil))))
  .nil) .nil)
  (.cons (.asg (.var 3) (.cst (.str [])))
  (.cons (.asg (.var 4) (slideE dr))
  (.cons (.fors (.var 5) .rng1 (.cons (.var 1) .nil) (placeB dr))
  (.cons (.ret (.lst (.cons (.var 2) (.cons (.var 3) .nil))))
  .nil)))))))
section
variable {cf : Nat → List Slot → Co} {dr rw : Nat} (hd : Draws cf dr) (hR : Rows cf rw)
include hd
theorem slide_run (g : Int × Int) (l : List Slot) : ∃ (v : Int) (g' : Int × Int), -4 ≤ v ∧ v ≤ 4 ∧ ev cf (slideE dr) ⟨.le (bg g) :: l⟩ = .ok (.v (.int v)) ⟨.le (bg g') :: l⟩ := by
  have b1 := drawV_lt g (m := 9) (by omega)
  have d1 := draw_le hd (e := .cst (.int 9)) (m := 9) (v := 0) (l := .le (bg g) :: l) (l' := .le (bg g) :: l) rfl rfl rfl (by decide) (by decide)
  exact ⟨drawV g 9 - 4, drawS g 9, by omega, by omega, bin_go d1 (rfl : ev cf (.cst (.int 4)) _ = .ok (.v (.int 4)) _) rfl rfl rfl⟩
theorem place_step (above : List Nat) (b : Nat) (hb1 : 8 ≤ b) (hb2 : b ≤ 64) (ha : above.length = b) (hA : Sg above) (g : Int × Int) (row : List Nat) (hl : row.length ≤ 1000) (hS : Sg row) (sl : Int) (s1 : -4 ≤ sl) (s2 : sl ≤ 4) (k : Nat) :
    ∃ (g' : Int × Int) (row' : List Nat) (sl' : Int), row'.length = row.length + 1 ∧ Sg row' ∧ -4 ≤ sl' ∧ sl' ≤ 4 ∧ xss cf (placeB dr) ⟨[.le (bg g), .sh (nt b), .sh (.str above), .sh (.str row), .sh (.int sl), .sh (nt k)]⟩ = .nx ⟨[.le (bg g'), .sh (nt b), .sh (.str above), .sh (.str row'), .sh (.int sl'), .sh (nt k)]⟩ := by
  have b1 := drawV_lt g (m := 6) (by omega)
  have d1 := draw_le hd (e := .cst (.int 6)) (m := 6) (v := 0) (l := [.le (bg g), .sh (nt b), .sh (.str above), .sh (.str row), .sh (.int sl), .sh (nt k)]) (l' := [.le (bg g), .sh (nt b), .sh (.str above), .sh (.str row), .sh (.int sl), .sh (nt k)]) rfl rfl rfl (by decide) (by decide)
  have d1 : ev cf (.call dr (.cons (.var 0) (.cons (.cst (.int 6)) .nil))) ⟨[.le (bg g), .sh (nt b), .sh (.str above), .sh (.str row), .sh (.int sl), .sh (nt k)]⟩ = .ok (.v (.int (drawV g 6))) ⟨[.le (bg (drawS g 6)), .sh (nt b), .sh (.str above), .sh (.str row), .sh (.int sl), .sh (nt k)]⟩ := d1
  obtain ⟨g2, sl2, u1, u2, h1⟩ : ∃ (g2 : Int × Int) (sl2 : Int), -4 ≤ sl2 ∧ sl2 ≤ 4 ∧ xs cf (.iff (.cmp .eq (.call dr (.cons (.var 0) (.cons (.cst (.int 6)) .nil))) (.cst (.int 0))) (.cons (.asg (.var 4) (slideE dr)) .nil) .nil) ⟨[.le (bg g), .sh (nt b), .sh (.str above), .sh (.str row), .sh (.int sl), .sh (nt k)]⟩ = .nx ⟨[.le (bg g2), .sh (nt b), .sh (.str above), .sh (.str row), .sh (.int sl2), .sh (nt k)]⟩ := by
    have ec : ∀ t, (drawV g 6 == 0) = t → tst (ev cf (.cmp .eq (.call dr (.cons (.var 0) (.cons (.cst (.int 6)) .nil))) (.cst (.int 0)))) ⟨[.le (bg g), .sh (nt b), .sh (.str above), .sh (.str row), .sh (.int sl), .sh (nt k)]⟩ = .ok t ⟨[.le (bg (drawS g 6)), .sh (nt b), .sh (.str above), .sh (.str row), .sh (.int sl), .sh (nt k)]⟩ := by
      intro t ht
      generalize (Ex.call dr (.cons (.var 0) (.cons (.cst (.int 6)) .nil))) = E at d1 ⊢
      subst ht
      simp [op2_some, ev_cst, ev_var, ev_bin, ev_neg, ev_not, ev_and, ev_or, ev_cmp, ev_chn, ev_isN, ev_notN, ev_ife, ev_tup, ev_lst, ev_idx, ev_slc, ev_call, ev_blt, ev_met, ev_joi, ev_lc, ev_isi, tst_eq, evI_eq, evs_nil, evs_cons, evF_nil, evF_cons, evo_no, evo_so, xs_asg, xs_asgT, xs_par, xs_sub, xs_exp, xs_ret, xs_retN, xs_if, xs_for, xs_whl, xs_brk, xs_rse, xs_cnt, xs_pas, xss_nil, xss_cons, itK_seq, itK_rng1, itK_rng2, itK_rng3, itK_enm, itK_zip, bind_ok, bind_bad, of_ok, fbind_nx, fbind_rt, fbind_bk, fbind_ct, ofO_some, ofS_some, cnt_v, cnt_o, cnt_b, cntS_eq, frz_v, frz_o, frz_b, fr_no, fr_sh, fr_ow, fr_le, fr_lf, fr_lk, putS_fr, mutS_eq, SZ, idxV, slcV, metV, mokV, mok, inS, isiV, joiV, idxR, ixN_nat, ixN_num, binR, addR, mulR, intR, cmpR, D.tr, CM, opd, slcR, bltR, metR, hand, lent, dist, back, cnts, asgT, asgTs, D.eqv, eqvL, D.pl, plL, D.dep, depL, lockO, itemsOf, unlock, freeS, wipeS, restS, D.flat, d1]
    by_cases h0 : drawV g 6 = 0
    · obtain ⟨v, g', v1, v2, hv⟩ := slide_run hd (drawS g 6) [.sh (nt b), .sh (.str above), .sh (.str row), .sh (.int sl), .sh (nt k)]
      exact ⟨g', v, v1, v2, if_t (ec true (by rw [h0]; rfl)) (xss_go (asg_v hv (x := .sh (.int sl)) rfl rfl) rfl)⟩
    · exact ⟨drawS g 6, sl, s1, s2, if_f (ec false (by simpa using h0)) rfl⟩
  obtain ⟨p, hp, ep⟩ : ∃ p : Nat, p < b ∧ ev cf (.blt .max2 (.cons (.cst (.int 0)) (.cons (.blt .min2 (.cons (.bin .sub (.var 1) (.cst (.int 1))) (.cons (.bin .add (.var 5) (.var 4)) .nil))) .nil))) ⟨[.le (bg g2), .sh (nt b), .sh (.str above), .sh (.str row), .sh (.int sl2), .sh (nt k)]⟩ = .ok (.v (nt p)) ⟨[.le (bg g2), .sh (nt b), .sh (.str above), .sh (.str row), .sh (.int sl2), .sh (nt k)]⟩ := by
    obtain ⟨m, hm⟩ : ∃ m : Int, m = (if (k : Int) + sl2 < (b : Int) - 1 then (k : Int) + sl2 else (b : Int) - 1) := ⟨_, rfl⟩
    have e1 : ev cf (.blt .min2 (.cons (.bin .sub (.var 1) (.cst (.int 1))) (.cons (.bin .add (.var 5) (.var 4)) .nil))) ⟨[.le (bg g2), .sh (nt b), .sh (.str above), .sh (.str row), .sh (.int sl2), .sh (nt k)]⟩ = .ok (.v (.int m)) ⟨[.le (bg g2), .sh (nt b), .sh (.str above), .sh (.str row), .sh (.int sl2), .sh (nt k)]⟩ := by
      rw [hm]; rfl
    have hm2 : m ≤ (b : Int) - 1 := by rw [hm]; split <;> omega
    generalize (Ex.blt .min2 _) = E at e1 ⊢
    by_cases h : (0 : Int) < m
    · obtain ⟨q, hq⟩ := Int.eq_ofNat_of_zero_le (show 0 ≤ m by omega)
      subst hq
      exact ⟨q, by omega, by simp only [nt] at e1 ⊢; simp [op2_some, ev_cst, ev_var, ev_bin, ev_neg, ev_not, ev_and, ev_or, ev_cmp, ev_chn, ev_isN, ev_notN, ev_ife, ev_tup, ev_lst, ev_idx, ev_slc, ev_call, ev_blt, ev_met, ev_joi, ev_lc, ev_isi, tst_eq, evI_eq, evs_nil, evs_cons, evF_nil, evF_cons, evo_no, evo_so, xs_asg, xs_asgT, xs_par, xs_sub, xs_exp, xs_ret, xs_retN, xs_if, xs_for, xs_whl, xs_brk, xs_rse, xs_cnt, xs_pas, xss_nil, xss_cons, itK_seq, itK_rng1, itK_rng2, itK_rng3, itK_enm, itK_zip, bind_ok, bind_bad, of_ok, fbind_nx, fbind_rt, fbind_bk, fbind_ct, ofO_some, ofS_some, cnt_v, cnt_o, cnt_b, cntS_eq, frz_v, frz_o, frz_b, fr_no, fr_sh, fr_ow, fr_le, fr_lf, fr_lk, putS_fr, mutS_eq, SZ, idxV, slcV, metV, mokV, mok, inS, isiV, joiV, idxR, ixN_nat, ixN_num, binR, addR, mulR, intR, cmpR, D.tr, CM, opd, slcR, bltR, metR, hand, lent, dist, back, cnts, asgT, asgTs, D.eqv, eqvL, D.pl, plL, D.dep, depL, lockO, itemsOf, unlock, freeS, wipeS, restS, D.flat, e1]; omega⟩
    · exact ⟨0, by omega, by simp only [nt] at e1 ⊢; simp [op2_some, ev_cst, ev_var, ev_bin, ev_neg, ev_not, ev_and, ev_or, ev_cmp, ev_chn, ev_isN, ev_notN, ev_ife, ev_tup, ev_lst, ev_idx, ev_slc, ev_call, ev_blt, ev_met, ev_joi, ev_lc, ev_isi, tst_eq, evI_eq, evs_nil, evs_cons, evF_nil, evF_cons, evo_no, evo_so, xs_asg, xs_asgT, xs_par, xs_sub, xs_exp, xs_ret, xs_retN, xs_if, xs_for, xs_whl, xs_brk, xs_rse, xs_cnt, xs_pas, xss_nil, xss_cons, itK_seq, itK_rng1, itK_rng2, itK_rng3, itK_enm, itK_zip, bind_ok, bind_bad, of_ok, fbind_nx, fbind_rt, fbind_bk, fbind_ct, ofO_some, ofS_some, cnt_v, cnt_o, cnt_b, cntS_eq, frz_v, frz_o, frz_b, fr_no, fr_sh, fr_ow, fr_le, fr_lf, fr_lk, putS_fr, mutS_eq, SZ, idxV, slcV, metV, mokV, mok, inS, isiV, joiV, idxR, ixN_nat, ixN_num, binR, addR, mulR, intR, cmpR, D.tr, CM, opd, slcR, bltR, metR, hand, lent, dist, back, cnts, asgT, asgTs, D.eqv, eqvL, D.pl, plL, D.dep, depL, lockO, itemsOf, unlock, freeS, wipeS, restS, D.flat, e1]; omega⟩
  have hpl : p < above.length := by omega
  have e5 : above[p] = above.getD p 0 := by rw [List.getD_eq_getElem?_getD, List.getElem?_eq_getElem hpl]; rfl
  have hsn := hA.at p hpl
  generalize above.getD p 0 = d at *
  refine ⟨g2, row ++ [d], sl2, by simp, hS.app hsn, u1, u2, xss_go h1 ?_⟩
  have z1 : above.length ≤ 16777216 := by omega
  have z2 : row.length ≤ 16777215 := by omega
  have hpb : p < b := hp
  generalize (Ex.blt .max2 _) = E at ep ⊢
  simp [op2_some, ev_cst, ev_var, ev_bin, ev_neg, ev_not, ev_and, ev_or, ev_cmp, ev_chn, ev_isN, ev_notN, ev_ife, ev_tup, ev_lst, ev_idx, ev_slc, ev_call, ev_blt, ev_met, ev_joi, ev_lc, ev_isi, tst_eq, evI_eq, evs_nil, evs_cons, evF_nil, evF_cons, evo_no, evo_so, xs_asg, xs_asgT, xs_par, xs_sub, xs_exp, xs_ret, xs_retN, xs_if, xs_for, xs_whl, xs_brk, xs_rse, xs_cnt, xs_pas, xss_nil, xss_cons, itK_seq, itK_rng1, itK_rng2, itK_rng3, itK_enm, itK_zip, bind_ok, bind_bad, of_ok, fbind_nx, fbind_rt, fbind_bk, fbind_ct, ofO_some, ofS_some, cnt_v, cnt_o, cnt_b, cntS_eq, frz_v, frz_o, frz_b, fr_no, fr_sh, fr_ow, fr_le, fr_lf, fr_lk, putS_fr, mutS_eq, SZ, idxV, slcV, metV, mokV, mok, inS, isiV, joiV, idxR, ixN_nat, ixN_num, binR, addR, mulR, intR, cmpR, D.tr, CM, opd, slcR, bltR, metR, hand, lent, dist, back, cnts, asgT, asgTs, D.eqv, eqvL, D.pl, plL, D.dep, depL, lockO, itemsOf, unlock, freeS, wipeS, restS, D.flat, ep, z1, z2, hpl, e5]
include hR
theorem pair_run (g : Int × Int) : ∃ (above row : List Nat) (g' : Int × Int), 8 ≤ row.length ∧ row.length ≤ 64 ∧ above.length = row.length ∧ Sg above ∧ Sg row ∧
    runDf ⟨1, 6, pairBody dr rw⟩ cf [.le (bg g)] = .ok (.o [.str above, .str row]) [.le (bg g')] := by
  obtain ⟨b, g1, hb, h1⟩ := brd_le hd (l := [.le (bg g), .no, .no, .no, .no, .no]) (v := 0) rfl 8 64 57 8 (by decide) (by decide)
  obtain ⟨above, g2, a1, a2, h2⟩ := hR b (List.replicate b 46) g1 (by omega) (by omega) (List.length_replicate ..) (Sg.rep b (.inl rfl))
  have z1 : b ≤ 16777216 := by omega
  have k1 : okI (b : Int) = true := okI_nat (by omega)
  have st1 : xs cf (.asg (.var 1) (.idx (.lst (.cons (.cst (.int 8)) (.cons (.cst (.int 64)) (.cons (.bin .add (.cst (.int 8)) (.call dr (.cons (.var 0) (.cons (.cst (.int 57)) .nil)))) (.cons (.bin .add (.cst (.int 8)) (.call dr (.cons (.var 0) (.cons (.cst (.int 57)) .nil)))) .nil))))) (.call dr (.cons (.var 0) (.cons (.cst (.int 4)) .nil))))) ⟨[.le (bg g), .no, .no, .no, .no, .no]⟩ = .nx ⟨[.le (bg g1), .sh (nt b), .no, .no, .no, .no]⟩ := asg_v h1 (x := .no) rfl rfl
  have em : ev cf (.bin .mul (.cst (.str [46])) (.var 1)) ⟨[.le (bg g1), .sh (nt b), .no, .no, .no, .no]⟩ = .ok (.v (.str (List.replicate b 46))) ⟨[.le (bg g1), .sh (nt b), .no, .no, .no, .no]⟩ := by simp [op2_some, ev_cst, ev_var, ev_bin, ev_neg, ev_not, ev_and, ev_or, ev_cmp, ev_chn, ev_isN, ev_notN, ev_ife, ev_tup, ev_lst, ev_idx, ev_slc, ev_call, ev_blt, ev_met, ev_joi, ev_lc, ev_isi, tst_eq, evI_eq, evs_nil, evs_cons, evF_nil, evF_cons, evo_no, evo_so, xs_asg, xs_asgT, xs_par, xs_sub, xs_exp, xs_ret, xs_retN, xs_if, xs_for, xs_whl, xs_brk, xs_rse, xs_cnt, xs_pas, xss_nil, xss_cons, itK_seq, itK_rng1, itK_rng2, itK_rng3, itK_enm, itK_zip, bind_ok, bind_bad, of_ok, fbind_nx, fbind_rt, fbind_bk, fbind_ct, ofO_some, ofS_some, cnt_v, cnt_o, cnt_b, cntS_eq, frz_v, frz_o, frz_b, fr_no, fr_sh, fr_ow, fr_le, fr_lf, fr_lk, putS_fr, mutS_eq, SZ, idxV, slcV, metV, mokV, mok, inS, isiV, joiV, idxR, ixN_nat, ixN_num, binR, addR, mulR, intR, cmpR, D.tr, CM, opd, slcR, bltR, metR, hand, lent, dist, back, cnts, asgT, asgTs, D.eqv, eqvL, D.pl, plL, D.dep, depL, lockO, itemsOf, unlock, freeS, wipeS, restS, D.flat, z1, k1, rep_one]
  have st2 : xs cf (.asg (.var 2) (.call rw (.cons (.var 0) (.cons (.var 1) (.cons (.bin .mul (.cst (.str [46])) (.var 1)) .nil))))) ⟨[.le (bg g1), .sh (nt b), .no, .no, .no, .no]⟩ = .nx ⟨[.le (bg g2), .sh (nt b), .sh (.str above), .no, .no, .no]⟩ :=
    asg_v (call_v (s1 := ⟨[.le (bg g1), .sh (nt b), .no, .no, .no, .no]⟩) (rs := [.b 0, .v (nt b), .v (.str (List.replicate b 46))]) (evs_go (r := .b 0) rfl (evs_go (r := .v (nt b)) rfl (evs_go em rfl))) rfl rfl h2 (s2 := ⟨[.le (bg g2), .sh (nt b), .no, .no, .no, .no]⟩) rfl) (x := .no) rfl rfl
  have d3 := draw_le hd (e := .cst (.int 2)) (m := 2) (v := 0) (l := [.le (bg g2), .sh (nt b), .sh (.str above), .no, .no, .no]) (l' := [.le (bg g2), .sh (nt b), .sh (.str above), .no, .no, .no]) rfl rfl rfl (by decide) (by decide)
  have d3 : ev cf (.call dr (.cons (.var 0) (.cons (.cst (.int 2)) .nil))) ⟨[.le (bg g2), .sh (nt b), .sh (.str above), .no, .no, .no]⟩ = .ok (.v (.int (drawV g2 2))) ⟨[.le (bg (drawS g2 2)), .sh (nt b), .sh (.str above), .no, .no, .no]⟩ := d3
  have ec : ∀ t, (drawV g2 2 == 0) = t → tst (ev cf (.cmp .eq (.call dr (.cons (.var 0) (.cons (.cst (.int 2)) .nil))) (.cst (.int 0)))) ⟨[.le (bg g2), .sh (nt b), .sh (.str above), .no, .no, .no]⟩ = .ok t ⟨[.le (bg (drawS g2 2)), .sh (nt b), .sh (.str above), .no, .no, .no]⟩ := by
    intro t ht
    generalize (Ex.call dr (.cons (.var 0) (.cons (.cst (.int 2)) .nil))) = E at d3 ⊢
    subst ht
    simp [op2_some, ev_cst, ev_var, ev_bin, ev_neg, ev_not, ev_and, ev_or, ev_cmp, ev_chn, ev_isN, ev_notN, ev_ife, ev_tup, ev_lst, ev_idx, ev_slc, ev_call, ev_blt, ev_met, ev_joi, ev_lc, ev_isi, tst_eq, evI_eq, evs_nil, evs_cons, evF_nil, evF_cons, evo_no, evo_so, xs_asg, xs_asgT, xs_par, xs_sub, xs_exp, xs_ret, xs_retN, xs_if, xs_for, xs_whl, xs_brk, xs_rse, xs_cnt, xs_pas, xss_nil, xss_cons, itK_seq, itK_rng1, itK_rng2, itK_rng3, itK_enm, itK_zip, bind_ok, bind_bad, of_ok, fbind_nx, fbind_rt, fbind_bk, fbind_ct, ofO_some, ofS_some, cnt_v, cnt_o, cnt_b, cntS_eq, frz_v, frz_o, frz_b, fr_no, fr_sh, fr_ow, fr_le, fr_lf, fr_lk, putS_fr, mutS_eq, SZ, idxV, slcV, metV, mokV, mok, inS, isiV, joiV, idxR, ixN_nat, ixN_num, binR, addR, mulR, intR, cmpR, D.tr, CM, opd, slcR, bltR, metR, hand, lent, dist, back, cnts, asgT, asgTs, D.eqv, eqvL, D.pl, plL, D.dep, depL, lockO, itemsOf, unlock, freeS, wipeS, restS, D.flat, d3]
  generalize drawS g2 2 = g3 at *
  by_cases h0 : drawV g2 2 = 0
  · obtain ⟨row, g4, r1, r2, h4⟩ := hR b above g3 (by omega) (by omega) a1 a2
    refine ⟨above, row, g4, by omega, by omega, by omega, a2, r2, run_o (s := ⟨[.le (bg g4), .sh (nt b), .sh (.str above), .no, .no, .no]⟩) ⟨rfl, (show 1 ≤ 6 from by decide)⟩ (xss_go st1 (xss_go st2 (rt_go (if_t (ec true (by rw [h0]; rfl)) ?_)))) rfl rfl⟩
    have hc := call_v (cf := cf) (f := rw) (es := .cons (.var 0) (.cons (.var 1) (.cons (.var 2) .nil))) (s := ⟨[.le (bg g3), .sh (nt b), .sh (.str above), .no, .no, .no]⟩) (s1 := ⟨[.le (bg g3), .sh (nt b), .sh (.str above), .no, .no, .no]⟩) (rs := [.b 0, .v (nt b), .v (.str above)]) rfl rfl rfl h4 (s2 := ⟨[.le (bg g4), .sh (nt b), .sh (.str above), .no, .no, .no]⟩) rfl
    generalize (Ex.call rw (.cons (.var 0) (.cons (.var 1) (.cons (.var 2) .nil)))) = E at hc ⊢
    simp [op2_some, ev_cst, ev_var, ev_bin, ev_neg, ev_not, ev_and, ev_or, ev_cmp, ev_chn, ev_isN, ev_notN, ev_ife, ev_tup, ev_lst, ev_idx, ev_slc, ev_call, ev_blt, ev_met, ev_joi, ev_lc, ev_isi, tst_eq, evI_eq, evs_nil, evs_cons, evF_nil, evF_cons, evo_no, evo_so, xs_asg, xs_asgT, xs_par, xs_sub, xs_exp, xs_ret, xs_retN, xs_if, xs_for, xs_whl, xs_brk, xs_rse, xs_cnt, xs_pas, xss_nil, xss_cons, itK_seq, itK_rng1, itK_rng2, itK_rng3, itK_enm, itK_zip, bind_ok, bind_bad, of_ok, fbind_nx, fbind_rt, fbind_bk, fbind_ct, ofO_some, ofS_some, cnt_v, cnt_o, cnt_b, cntS_eq, frz_v, frz_o, frz_b, fr_no, fr_sh, fr_ow, fr_le, fr_lf, fr_lk, putS_fr, mutS_eq, SZ, idxV, slcV, metV, mokV, mok, inS, isiV, joiV, idxR, ixN_nat, ixN_num, binR, addR, mulR, intR, cmpR, D.tr, CM, opd, slcR, bltR, metR, hand, lent, dist, back, cnts, asgT, asgTs, D.eqv, eqvL, D.pl, plL, D.dep, depL, lockO, itemsOf, unlock, freeS, wipeS, restS, D.flat, hc]
  · obtain ⟨sl, g4, u1, u2, h5⟩ := slide_run hd g3 [.sh (nt b), .sh (.str above), .sh (.str []), .no, .no]
    obtain ⟨s', ⟨g5, row, sl5, x5, f5, l5, S5, v1, v2, rfl⟩, h6⟩ := forL_rng (t := .var 5) (lk := []) (n := b) (fb := xss cf (placeB dr)) (s := ⟨[.le (bg g4), .sh (nt b), .sh (.str above), .sh (.str []), .sh (.int sl), .no]⟩)
      (fun k s => ∃ (g : Int × Int) (row : List Nat) (sl : Int) (x5 : Slot), fr x5 = true ∧ row.length = k ∧ Sg row ∧ -4 ≤ sl ∧ sl ≤ 4 ∧ s = ⟨[.le (bg g), .sh (nt b), .sh (.str above), .sh (.str row), .sh (.int sl), x5]⟩) ⟨g4, [], sl, .no, rfl, rfl, (fun c h => by cases h), u1, u2, rfl⟩ (fun k s hk ⟨g, row, sl, x5, f5, l5, S5, v1, v2, e⟩ => by
        subst e
        obtain ⟨g', row', sl', q1, q2, q3, q4, q5⟩ := place_step hd above b (by omega) (by omega) a1 a2 g row (by omega) S5 sl v1 v2 k
        exact ⟨_, _, putS_at (x := x5) rfl f5, .inl q5, g', row', sl', .sh (nt k), rfl, by omega, q2, q3, q4, rfl⟩)
    have h5' : xs cf (.asg (.var 4) (slideE dr)) ⟨[.le (bg g3), .sh (nt b), .sh (.str above), .sh (.str []), .no, .no]⟩ = .nx ⟨[.le (bg g4), .sh (nt b), .sh (.str above), .sh (.str []), .sh (.int sl), .no]⟩ := asg_v h5 (x := .no) rfl rfl
    exact ⟨above, row, g5, by omega, by omega, by omega, a2, S5, run_o (s := ⟨[.le (bg g5), .sh (nt b), .sh (.str above), .sh (.str row), .sh (.int sl5), x5]⟩) ⟨rfl, (show 1 ≤ 6 from by decide)⟩ (xss_go st1 (xss_go st2 (xss_go (if_f (ec false (by simpa using h0)) rfl) (xss_go (s1 := ⟨[.le (bg g3), .sh (nt b), .sh (.str above), .sh (.str []), .no, .no]⟩) rfl (xss_go h5' (xss_go (for_go (rng_go (n := b) rfl (by omega)) h6) rfl)))))) rfl rfl⟩
end
/-! the law's own steps -/
def Owns (cf : Nat → List Slot → Co) (ow : Nat) : Prop := ∀ (row : List Nat) (c : Nat) (p : Int) (q : Nat), row.length ≤ 1000 → p + 1 = (q : Int) → q ≤ 1001 → cf ow [.sh (.str row), .sh (.int p), .sh (ch c)] = .ok (.v (nt (firstF (fun k => row.getD k 0 != c) q row.length))) [.sh (.str row), .sh (.int p), .sh (ch c)]
def Fars (cf : Nat → List Slot → Co) (fa : Nat) : Prop := ∀ (row : List Nat) (c : Nat) (p : Int) (q : Nat), row.length ≤ 1000 → p + 1 = (q : Int) → q ≤ 1001 → cf fa [.sh (.str row), .sh (.int p), .sh (ch c)] = .ok (.v (nt (firstF (farP row c) q row.length))) [.sh (.str row), .sh (.int p), .sh (ch c)]
def Backs (cf : Nat → List Slot → Co) (bk : Nat) : Prop := ∀ (row : List Nat) (c : Nat) (p : Int) (q : Nat), row.length ≤ 1000 → p + 1 = (q : Int) → q ≤ 1001 → cf bk [.sh (.str row), .sh (.int p), .sh (ch c)] = .ok (.v (nt (firstF (isC row c) q row.length))) [.sh (.str row), .sh (.int p), .sh (ch c)]
abbrev e2 (x : Stp × Nat) : D := .tup [x.1.enc, ch x.2]
def lstepC (bk : Nat) : Ss := (.cons (.iff (.chn .le .le (.neg (.cst (.int 3))) (.bin .sub (.var 6) (.var 7)) (.cst (.int 3))) (.cons (.exp (.met .append (.var 2) (.cons (.tup (.cons (.tup (.cons (.cst (.str [110, 101, 97, 114])) (.cons (.bin .sub (.var 6) (.var 7)) .nil))) (.cons (.var 4) .nil))) .nil)))
  (.cons (.asg (.var 3) (.var 6))
  (.cons (.asg (.var 4) (.idx (.cst (.str [46, 35])) (.blt .int (.cons (.cmp .eq (.var 4) (.cst (.str [46]))) .nil))))
  .nil))) (.cons (.asg (.var 9) (.call bk (.cons (.var 1) (.cons (.var 6) (.cons (.var 4) .nil)))))
  (.cons (.exp (.met .append (.var 2) (.cons (.tup (.cons (.tup (.cons (.cst (.str [112, 108, 97, 105, 110])) (.cons (.bin .sub (.var 6) (.blt .max2 (.cons (.var 3) (.cons (.cst (.int 0)) .nil)))) (.cons (.bin .sub (.var 9) (.var 6)) .nil)))) (.cons (.var 4) .nil))) .nil)))
  (.cons (.asg (.var 3) (.var 9))
  .nil))))
  .nil)
def lstepI (bk : Nat) : Sx := (.iff (.cmp .lt (.var 8) (.var 6)) (.cons (.exp (.met .append (.var 2) (.cons (.tup (.cons (.tup (.cons (.cst (.str [112, 97, 115, 115, 101, 100])) .nil)) (.cons (.var 4) .nil))) .nil)))
  (.cons (.asg (.var 3) (.var 8))
  .nil)) (lstepC bk))
def lstepB (ow fa bk : Nat) : Ss := (.cons (.iff (.cmp .lt (.var 3) (.blt .len (.cons (.var 1) .nil))) (.cons (.asg (.var 6) (.call ow (.cons (.var 1) (.cons (.var 3) (.cons (.var 4) .nil)))))
  (.cons (.asg (.var 7) (.call fa (.cons (.var 0) (.cons (.var 3) (.cons (.var 4) .nil)))))
  (.cons (.asg (.var 8) (.call bk (.cons (.var 0) (.cons (.var 7) (.cons (.var 4) .nil)))))
  (.cons (lstepI bk)
  .nil)))) .nil)
  .nil)
def lstepsBody (ow fa bk : Nat) : Ss :=
  (.cons (.asg (.var 2) (.lst .nil))
  (.cons (.asg (.var 3) (.neg (.cst (.int 1))))
  (.cons (.asg (.var 4) (.cst (.str [46])))
  (.cons (.fors (.var 5) .rng1 (.cons (.bin .add (.blt .len (.cons (.var 1) .nil)) (.cst (.int 1))) .nil) (lstepB ow fa bk))
  (.cons (.ret (.var 2))
  .nil)))))
section
variable {cf : Nat → List Slot → Co} {ow fa bk : Nat} (hO : Owns cf ow) (hF : Fars cf fa) (hB : Backs cf bk)
include hO hF hB
theorem lstep_run (above row : List Nat) (hab : above.length = row.length) (hr : row.length ≤ 1000) (hA : Sg above) (hS : Sg row) (p : Int) (q : Nat) (hpq : p + 1 = (q : Int)) (hq : q ≤ row.length) (c : Nat) (hc : Sn c) (h0 : q = 0 → c = 46) (L : List D) (hL : L.length ≤ 2000) (A5 x6 x7 x8 x9 : Slot) (f6 : fr x6 = true) (f7 : fr x7 = true) (f8 : fr x8 = true) (f9 : fr x9 = true) :
    ∃ y6 y7 y8 y9, fr y6 = true ∧ fr y7 = true ∧ fr y8 = true ∧ fr y9 = true ∧ xss cf (lstepB ow fa bk) ⟨[.sh (.str above), .sh (.str row), .ow L, .sh (.int p), .sh (ch c), A5, x6, x7, x8, x9]⟩
      = .nx ⟨[.sh (.str above), .sh (.str row), .ow (L ++ [e2 ((stepF above row q c).1, c)]), .sh (nt (stepF above row q c).2.1), .sh (ch (stepF above row q c).2.2), A5, y6, y7, y8, y9]⟩ := by
  have z1 : row.length ≤ 16777216 := by omega
  have eO : cf ow [.sh (.str row), .sh (.int p), .sh (ch c)] = .ok (.v (nt (ownF row q c))) [.sh (.str row), .sh (.int p), .sh (ch c)] := by
    rw [hO row c p q hr hpq (by omega)]
    have : firstF (fun k => row.getD k 0 != c) q row.length = ownF row q c := first_congr hq fun i h1 h2 => by
      have := sn_two hc (hS.at i h2)
      have hne := flip_ne hc
      show (row.getD i 0 != c) = (row.getD i 0 == flip1 c)
      rcases this with e | e
      · rw [e, bne_self_eq_false]; symm; rw [beq_eq_false_iff_ne]; exact fun h => hne h.symm
      · rw [e, beq_self_eq_true, bne_iff_ne]; exact hne
    rw [this]
  have eF := hF above c p q (by omega) hpq (by omega)
  have eF : cf fa [.sh (.str above), .sh (.int p), .sh (ch c)] = .ok (.v (nt (farF above q c))) [.sh (.str above), .sh (.int p), .sh (ch c)] := eF
  obtain ⟨f1, f2, f3⟩ := far_spec above q c (by omega)
  have eB := hB above c (farF above q c : Int) (farF above q c + 1) (by omega) rfl (by omega)
  rw [back_eq above (farF above q c) c f2 f3] at eB
  have eB : cf bk [.sh (.str above), .sh (nt (farF above q c)), .sh (ch c)] = .ok (.v (nt (backF above (farF above q c) c))) [.sh (.str above), .sh (nt (farF above q c)), .sh (ch c)] := eB
  obtain ⟨o1, o2⟩ : q ≤ ownF row q c ∧ ownF row q c ≤ row.length := ⟨(first_spec (isC row (flip1 c)) q row.length hq).1, (first_spec (isC row (flip1 c)) q row.length hq).2.1⟩
  have o3 : ownF row q c < row.length → row.getD (ownF row q c) 0 ≠ c := fun h => by
    have := (first_spec (isC row (flip1 c)) q row.length hq).2.2.2 h
    have h2 : row.getD (ownF row q c) 0 = flip1 c := eq_of_beq this
    rw [h2]; exact flip_ne hc
  have eE := hB row c (ownF row q c : Int) (ownF row q c + 1) (by omega) rfl (by omega)
  rw [back_eq row (ownF row q c) c o2 o3] at eE
  have eE : cf bk [.sh (.str row), .sh (nt (ownF row q c)), .sh (ch c)] = .ok (.v (nt (firstF (isC row c) (ownF row q c) row.length))) [.sh (.str row), .sh (nt (ownF row q c)), .sh (ch c)] := eE
  obtain ⟨g1, g2, _, _⟩ := first_spec (isC row c) (ownF row q c) row.length o2
  unfold stepF
  generalize backF above (farF above q c) c = b at *
  generalize farF above q c = far at *
  generalize firstF (isC row c) (ownF row q c) row.length = en at *
  generalize ownF row q c = own at *
  have l1 : L.length ≤ 16777215 := by omega
  have l2 : L.length < 16777216 := by omega
  have ec : tst (ev cf (.cmp .lt (.var 3) (.blt .len (.cons (.var 1) .nil)))) ⟨[.sh (.str above), .sh (.str row), .ow L, .sh (.int p), .sh (ch c), A5, x6, x7, x8, x9]⟩ = .ok true ⟨[.sh (.str above), .sh (.str row), .ow L, .sh (.int p), .sh (ch c), A5, x6, x7, x8, x9]⟩ := by
    have : p < (row.length : Int) := by omega
    simp [op2_some, ev_cst, ev_var, ev_bin, ev_neg, ev_not, ev_and, ev_or, ev_cmp, ev_chn, ev_isN, ev_notN, ev_ife, ev_tup, ev_lst, ev_idx, ev_slc, ev_call, ev_blt, ev_met, ev_joi, ev_lc, ev_isi, tst_eq, evI_eq, evs_nil, evs_cons, evF_nil, evF_cons, evo_no, evo_so, xs_asg, xs_asgT, xs_par, xs_sub, xs_exp, xs_ret, xs_retN, xs_if, xs_for, xs_whl, xs_brk, xs_rse, xs_cnt, xs_pas, xss_nil, xss_cons, itK_seq, itK_rng1, itK_rng2, itK_rng3, itK_enm, itK_zip, bind_ok, bind_bad, of_ok, fbind_nx, fbind_rt, fbind_bk, fbind_ct, ofO_some, ofS_some, cnt_v, cnt_o, cnt_b, cntS_eq, frz_v, frz_o, frz_b, fr_no, fr_sh, fr_ow, fr_le, fr_lf, fr_lk, putS_fr, mutS_eq, SZ, idxV, slcV, metV, mokV, mok, inS, isiV, joiV, idxR, ixN_nat, ixN_num, binR, addR, mulR, intR, cmpR, D.tr, CM, opd, slcR, bltR, metR, hand, lent, dist, back, cnts, asgT, asgTs, D.eqv, eqvL, D.pl, plL, D.dep, depL, lockO, itemsOf, unlock, freeS, wipeS, restS, D.flat, z1, this]
  have st1 : xs cf (.asg (.var 6) (.call ow (.cons (.var 1) (.cons (.var 3) (.cons (.var 4) .nil))))) ⟨[.sh (.str above), .sh (.str row), .ow L, .sh (.int p), .sh (ch c), A5, x6, x7, x8, x9]⟩ = .nx ⟨[.sh (.str above), .sh (.str row), .ow L, .sh (.int p), .sh (ch c), A5, .sh (nt own), x7, x8, x9]⟩ := by simp [op2_some, ev_cst, ev_var, ev_bin, ev_neg, ev_not, ev_and, ev_or, ev_cmp, ev_chn, ev_isN, ev_notN, ev_ife, ev_tup, ev_lst, ev_idx, ev_slc, ev_call, ev_blt, ev_met, ev_joi, ev_lc, ev_isi, tst_eq, evI_eq, evs_nil, evs_cons, evF_nil, evF_cons, evo_no, evo_so, xs_asg, xs_asgT, xs_par, xs_sub, xs_exp, xs_ret, xs_retN, xs_if, xs_for, xs_whl, xs_brk, xs_rse, xs_cnt, xs_pas, xss_nil, xss_cons, itK_seq, itK_rng1, itK_rng2, itK_rng3, itK_enm, itK_zip, bind_ok, bind_bad, of_ok, fbind_nx, fbind_rt, fbind_bk, fbind_ct, ofO_some, ofS_some, cnt_v, cnt_o, cnt_b, cntS_eq, frz_v, frz_o, frz_b, fr_no, fr_sh, fr_ow, fr_le, fr_lf, fr_lk, putS_fr, mutS_eq, SZ, idxV, slcV, metV, mokV, mok, inS, isiV, joiV, idxR, ixN_nat, ixN_num, binR, addR, mulR, intR, cmpR, D.tr, CM, opd, slcR, bltR, metR, hand, lent, dist, back, cnts, asgT, asgTs, D.eqv, eqvL, D.pl, plL, D.dep, depL, lockO, itemsOf, unlock, freeS, wipeS, restS, D.flat, eO, f6]
  have st2 : xs cf (.asg (.var 7) (.call fa (.cons (.var 0) (.cons (.var 3) (.cons (.var 4) .nil))))) ⟨[.sh (.str above), .sh (.str row), .ow L, .sh (.int p), .sh (ch c), A5, .sh (nt own), x7, x8, x9]⟩ = .nx ⟨[.sh (.str above), .sh (.str row), .ow L, .sh (.int p), .sh (ch c), A5, .sh (nt own), .sh (nt far), x8, x9]⟩ := by simp [op2_some, ev_cst, ev_var, ev_bin, ev_neg, ev_not, ev_and, ev_or, ev_cmp, ev_chn, ev_isN, ev_notN, ev_ife, ev_tup, ev_lst, ev_idx, ev_slc, ev_call, ev_blt, ev_met, ev_joi, ev_lc, ev_isi, tst_eq, evI_eq, evs_nil, evs_cons, evF_nil, evF_cons, evo_no, evo_so, xs_asg, xs_asgT, xs_par, xs_sub, xs_exp, xs_ret, xs_retN, xs_if, xs_for, xs_whl, xs_brk, xs_rse, xs_cnt, xs_pas, xss_nil, xss_cons, itK_seq, itK_rng1, itK_rng2, itK_rng3, itK_enm, itK_zip, bind_ok, bind_bad, of_ok, fbind_nx, fbind_rt, fbind_bk, fbind_ct, ofO_some, ofS_some, cnt_v, cnt_o, cnt_b, cntS_eq, frz_v, frz_o, frz_b, fr_no, fr_sh, fr_ow, fr_le, fr_lf, fr_lk, putS_fr, mutS_eq, SZ, idxV, slcV, metV, mokV, mok, inS, isiV, joiV, idxR, ixN_nat, ixN_num, binR, addR, mulR, intR, cmpR, D.tr, CM, opd, slcR, bltR, metR, hand, lent, dist, back, cnts, asgT, asgTs, D.eqv, eqvL, D.pl, plL, D.dep, depL, lockO, itemsOf, unlock, freeS, wipeS, restS, D.flat, eF, f7]
  have st3 : xs cf (.asg (.var 8) (.call bk (.cons (.var 0) (.cons (.var 7) (.cons (.var 4) .nil))))) ⟨[.sh (.str above), .sh (.str row), .ow L, .sh (.int p), .sh (ch c), A5, .sh (nt own), .sh (nt far), x8, x9]⟩ = .nx ⟨[.sh (.str above), .sh (.str row), .ow L, .sh (.int p), .sh (ch c), A5, .sh (nt own), .sh (nt far), .sh (nt b), x9]⟩ := by simp [op2_some, ev_cst, ev_var, ev_bin, ev_neg, ev_not, ev_and, ev_or, ev_cmp, ev_chn, ev_isN, ev_notN, ev_ife, ev_tup, ev_lst, ev_idx, ev_slc, ev_call, ev_blt, ev_met, ev_joi, ev_lc, ev_isi, tst_eq, evI_eq, evs_nil, evs_cons, evF_nil, evF_cons, evo_no, evo_so, xs_asg, xs_asgT, xs_par, xs_sub, xs_exp, xs_ret, xs_retN, xs_if, xs_for, xs_whl, xs_brk, xs_rse, xs_cnt, xs_pas, xss_nil, xss_cons, itK_seq, itK_rng1, itK_rng2, itK_rng3, itK_enm, itK_zip, bind_ok, bind_bad, of_ok, fbind_nx, fbind_rt, fbind_bk, fbind_ct, ofO_some, ofS_some, cnt_v, cnt_o, cnt_b, cntS_eq, frz_v, frz_o, frz_b, fr_no, fr_sh, fr_ow, fr_le, fr_lf, fr_lk, putS_fr, mutS_eq, SZ, idxV, slcV, metV, mokV, mok, inS, isiV, joiV, idxR, ixN_nat, ixN_num, binR, addR, mulR, intR, cmpR, D.tr, CM, opd, slcR, bltR, metR, hand, lent, dist, back, cnts, asgT, asgTs, D.eqv, eqvL, D.pl, plL, D.dep, depL, lockO, itemsOf, unlock, freeS, wipeS, restS, D.flat, eB, f8]
  by_cases h1 : b < own
  · rw [if_pos h1]
    refine ⟨.sh (nt own), .sh (nt far), .sh (nt b), x9, rfl, rfl, rfl, f9, xss_go (if_t ec (xss_go st1 (xss_go st2 (xss_go st3 (xss_go (s1 := ⟨[.sh (.str above), .sh (.str row), .ow (L ++ [e2 (Stp.passed, c)]), .sh (nt b), .sh (ch c), A5, .sh (nt own), .sh (nt far), .sh (nt b), x9]⟩) ?_ rfl))))) rfl⟩
    simp [lstepI, op2_some, ev_cst, ev_var, ev_bin, ev_neg, ev_not, ev_and, ev_or, ev_cmp, ev_chn, ev_isN, ev_notN, ev_ife, ev_tup, ev_lst, ev_idx, ev_slc, ev_call, ev_blt, ev_met, ev_joi, ev_lc, ev_isi, tst_eq, evI_eq, evs_nil, evs_cons, evF_nil, evF_cons, evo_no, evo_so, xs_asg, xs_asgT, xs_par, xs_sub, xs_exp, xs_ret, xs_retN, xs_if, xs_for, xs_whl, xs_brk, xs_rse, xs_cnt, xs_pas, xss_nil, xss_cons, itK_seq, itK_rng1, itK_rng2, itK_rng3, itK_enm, itK_zip, bind_ok, bind_bad, of_ok, fbind_nx, fbind_rt, fbind_bk, fbind_ct, ofO_some, ofS_some, cnt_v, cnt_o, cnt_b, cntS_eq, frz_v, frz_o, frz_b, fr_no, fr_sh, fr_ow, fr_le, fr_lf, fr_lk, putS_fr, mutS_eq, SZ, idxV, slcV, metV, mokV, mok, inS, isiV, joiV, idxR, ixN_nat, ixN_num, binR, addR, mulR, intR, cmpR, D.tr, CM, opd, slcR, bltR, metR, hand, lent, dist, back, cnts, asgT, asgTs, D.eqv, eqvL, D.pl, plL, D.dep, depL, lockO, itemsOf, unlock, freeS, wipeS, restS, D.flat, h1, l1, l2, Stp.enc]
  · rw [if_neg h1]
    have hab' : tst (ev cf (.chn .le .le (.neg (.cst (.int 3))) (.bin .sub (.var 6) (.var 7)) (.cst (.int 3)))) ⟨[.sh (.str above), .sh (.str row), .ow L, .sh (.int p), .sh (ch c), A5, .sh (nt own), .sh (nt far), .sh (nt b), x9]⟩ = .ok (decide (own ≤ far + 3 ∧ far ≤ own + 3)) ⟨[.sh (.str above), .sh (.str row), .ow L, .sh (.int p), .sh (ch c), A5, .sh (nt own), .sh (nt far), .sh (nt b), x9]⟩ := by
      by_cases y : -3 ≤ (own : Int) - (far : Int)
      · by_cases y2 : (own : Int) - (far : Int) ≤ 3
        · rw [decide_eq_true (show own ≤ far + 3 ∧ far ≤ own + 3 by omega)]; simp [op2_some, ev_cst, ev_var, ev_bin, ev_neg, ev_not, ev_and, ev_or, ev_cmp, ev_chn, ev_isN, ev_notN, ev_ife, ev_tup, ev_lst, ev_idx, ev_slc, ev_call, ev_blt, ev_met, ev_joi, ev_lc, ev_isi, tst_eq, evI_eq, evs_nil, evs_cons, evF_nil, evF_cons, evo_no, evo_so, xs_asg, xs_asgT, xs_par, xs_sub, xs_exp, xs_ret, xs_retN, xs_if, xs_for, xs_whl, xs_brk, xs_rse, xs_cnt, xs_pas, xss_nil, xss_cons, itK_seq, itK_rng1, itK_rng2, itK_rng3, itK_enm, itK_zip, bind_ok, bind_bad, of_ok, fbind_nx, fbind_rt, fbind_bk, fbind_ct, ofO_some, ofS_some, cnt_v, cnt_o, cnt_b, cntS_eq, frz_v, frz_o, frz_b, fr_no, fr_sh, fr_ow, fr_le, fr_lf, fr_lk, putS_fr, mutS_eq, SZ, idxV, slcV, metV, mokV, mok, inS, isiV, joiV, idxR, ixN_nat, ixN_num, binR, addR, mulR, intR, cmpR, D.tr, CM, opd, slcR, bltR, metR, hand, lent, dist, back, cnts, asgT, asgTs, D.eqv, eqvL, D.pl, plL, D.dep, depL, lockO, itemsOf, unlock, freeS, wipeS, restS, D.flat, y, y2]
        · rw [decide_eq_false (show ¬ (own ≤ far + 3 ∧ far ≤ own + 3) by omega)]; simp [op2_some, ev_cst, ev_var, ev_bin, ev_neg, ev_not, ev_and, ev_or, ev_cmp, ev_chn, ev_isN, ev_notN, ev_ife, ev_tup, ev_lst, ev_idx, ev_slc, ev_call, ev_blt, ev_met, ev_joi, ev_lc, ev_isi, tst_eq, evI_eq, evs_nil, evs_cons, evF_nil, evF_cons, evo_no, evo_so, xs_asg, xs_asgT, xs_par, xs_sub, xs_exp, xs_ret, xs_retN, xs_if, xs_for, xs_whl, xs_brk, xs_rse, xs_cnt, xs_pas, xss_nil, xss_cons, itK_seq, itK_rng1, itK_rng2, itK_rng3, itK_enm, itK_zip, bind_ok, bind_bad, of_ok, fbind_nx, fbind_rt, fbind_bk, fbind_ct, ofO_some, ofS_some, cnt_v, cnt_o, cnt_b, cntS_eq, frz_v, frz_o, frz_b, fr_no, fr_sh, fr_ow, fr_le, fr_lf, fr_lk, putS_fr, mutS_eq, SZ, idxV, slcV, metV, mokV, mok, inS, isiV, joiV, idxR, ixN_nat, ixN_num, binR, addR, mulR, intR, cmpR, D.tr, CM, opd, slcR, bltR, metR, hand, lent, dist, back, cnts, asgT, asgTs, D.eqv, eqvL, D.pl, plL, D.dep, depL, lockO, itemsOf, unlock, freeS, wipeS, restS, D.flat, y, y2]
      · rw [decide_eq_false (show ¬ (own ≤ far + 3 ∧ far ≤ own + 3) by omega)]; simp [op2_some, ev_cst, ev_var, ev_bin, ev_neg, ev_not, ev_and, ev_or, ev_cmp, ev_chn, ev_isN, ev_notN, ev_ife, ev_tup, ev_lst, ev_idx, ev_slc, ev_call, ev_blt, ev_met, ev_joi, ev_lc, ev_isi, tst_eq, evI_eq, evs_nil, evs_cons, evF_nil, evF_cons, evo_no, evo_so, xs_asg, xs_asgT, xs_par, xs_sub, xs_exp, xs_ret, xs_retN, xs_if, xs_for, xs_whl, xs_brk, xs_rse, xs_cnt, xs_pas, xss_nil, xss_cons, itK_seq, itK_rng1, itK_rng2, itK_rng3, itK_enm, itK_zip, bind_ok, bind_bad, of_ok, fbind_nx, fbind_rt, fbind_bk, fbind_ct, ofO_some, ofS_some, cnt_v, cnt_o, cnt_b, cntS_eq, frz_v, frz_o, frz_b, fr_no, fr_sh, fr_ow, fr_le, fr_lf, fr_lk, putS_fr, mutS_eq, SZ, idxV, slcV, metV, mokV, mok, inS, isiV, joiV, idxR, ixN_nat, ixN_num, binR, addR, mulR, intR, cmpR, D.tr, CM, opd, slcR, bltR, metR, hand, lent, dist, back, cnts, asgT, asgTs, D.eqv, eqvL, D.pl, plL, D.dep, depL, lockO, itemsOf, unlock, freeS, wipeS, restS, D.flat, y]
    have ic : tst (ev cf (.cmp .lt (.var 8) (.var 6))) ⟨[.sh (.str above), .sh (.str row), .ow L, .sh (.int p), .sh (ch c), A5, .sh (nt own), .sh (nt far), .sh (nt b), x9]⟩ = .ok false ⟨[.sh (.str above), .sh (.str row), .ow L, .sh (.int p), .sh (ch c), A5, .sh (nt own), .sh (nt far), .sh (nt b), x9]⟩ := by simp [op2_some, ev_cst, ev_var, ev_bin, ev_neg, ev_not, ev_and, ev_or, ev_cmp, ev_chn, ev_isN, ev_notN, ev_ife, ev_tup, ev_lst, ev_idx, ev_slc, ev_call, ev_blt, ev_met, ev_joi, ev_lc, ev_isi, tst_eq, evI_eq, evs_nil, evs_cons, evF_nil, evF_cons, evo_no, evo_so, xs_asg, xs_asgT, xs_par, xs_sub, xs_exp, xs_ret, xs_retN, xs_if, xs_for, xs_whl, xs_brk, xs_rse, xs_cnt, xs_pas, xss_nil, xss_cons, itK_seq, itK_rng1, itK_rng2, itK_rng3, itK_enm, itK_zip, bind_ok, bind_bad, of_ok, fbind_nx, fbind_rt, fbind_bk, fbind_ct, ofO_some, ofS_some, cnt_v, cnt_o, cnt_b, cntS_eq, frz_v, frz_o, frz_b, fr_no, fr_sh, fr_ow, fr_le, fr_lf, fr_lk, putS_fr, mutS_eq, SZ, idxV, slcV, metV, mokV, mok, inS, isiV, joiV, idxR, ixN_nat, ixN_num, binR, addR, mulR, intR, cmpR, D.tr, CM, opd, slcR, bltR, metR, hand, lent, dist, back, cnts, asgT, asgTs, D.eqv, eqvL, D.pl, plL, D.dep, depL, lockO, itemsOf, unlock, freeS, wipeS, restS, D.flat, h1]
    by_cases h2 : own ≤ far + 3 ∧ far ≤ own + 3
    · rw [if_pos h2]
      rw [decide_eq_true h2] at hab'
      refine ⟨.sh (nt own), .sh (nt far), .sh (nt b), x9, rfl, rfl, rfl, f9, xss_go (if_t ec (xss_go st1 (xss_go st2 (xss_go st3 (xss_go (if_f ic (xss_go (s1 := ⟨[.sh (.str above), .sh (.str row), .ow (L ++ [e2 (Stp.near ((own : Int) - (far : Int)), c)]), .sh (nt own), .sh (ch (flip1 c)), A5, .sh (nt own), .sh (nt far), .sh (nt b), x9]⟩) (if_t hab' ?_) rfl)) rfl))))) rfl⟩
      unfold flip1
      rcases hc with rfl | rfl
      · simp [op2_some, ev_cst, ev_var, ev_bin, ev_neg, ev_not, ev_and, ev_or, ev_cmp, ev_chn, ev_isN, ev_notN, ev_ife, ev_tup, ev_lst, ev_idx, ev_slc, ev_call, ev_blt, ev_met, ev_joi, ev_lc, ev_isi, tst_eq, evI_eq, evs_nil, evs_cons, evF_nil, evF_cons, evo_no, evo_so, xs_asg, xs_asgT, xs_par, xs_sub, xs_exp, xs_ret, xs_retN, xs_if, xs_for, xs_whl, xs_brk, xs_rse, xs_cnt, xs_pas, xss_nil, xss_cons, itK_seq, itK_rng1, itK_rng2, itK_rng3, itK_enm, itK_zip, bind_ok, bind_bad, of_ok, fbind_nx, fbind_rt, fbind_bk, fbind_ct, ofO_some, ofS_some, cnt_v, cnt_o, cnt_b, cntS_eq, frz_v, frz_o, frz_b, fr_no, fr_sh, fr_ow, fr_le, fr_lf, fr_lk, putS_fr, mutS_eq, SZ, idxV, slcV, metV, mokV, mok, inS, isiV, joiV, idxR, ixN_nat, ixN_num, binR, addR, mulR, intR, cmpR, D.tr, CM, opd, slcR, bltR, metR, hand, lent, dist, back, cnts, asgT, asgTs, D.eqv, eqvL, D.pl, plL, D.dep, depL, lockO, itemsOf, unlock, freeS, wipeS, restS, D.flat, l1, l2, Stp.enc]
      · simp [op2_some, ev_cst, ev_var, ev_bin, ev_neg, ev_not, ev_and, ev_or, ev_cmp, ev_chn, ev_isN, ev_notN, ev_ife, ev_tup, ev_lst, ev_idx, ev_slc, ev_call, ev_blt, ev_met, ev_joi, ev_lc, ev_isi, tst_eq, evI_eq, evs_nil, evs_cons, evF_nil, evF_cons, evo_no, evo_so, xs_asg, xs_asgT, xs_par, xs_sub, xs_exp, xs_ret, xs_retN, xs_if, xs_for, xs_whl, xs_brk, xs_rse, xs_cnt, xs_pas, xss_nil, xss_cons, itK_seq, itK_rng1, itK_rng2, itK_rng3, itK_enm, itK_zip, bind_ok, bind_bad, of_ok, fbind_nx, fbind_rt, fbind_bk, fbind_ct, ofO_some, ofS_some, cnt_v, cnt_o, cnt_b, cntS_eq, frz_v, frz_o, frz_b, fr_no, fr_sh, fr_ow, fr_le, fr_lf, fr_lk, putS_fr, mutS_eq, SZ, idxV, slcV, metV, mokV, mok, inS, isiV, joiV, idxR, ixN_nat, ixN_num, binR, addR, mulR, intR, cmpR, D.tr, CM, opd, slcR, bltR, metR, hand, lent, dist, back, cnts, asgT, asgTs, D.eqv, eqvL, D.pl, plL, D.dep, depL, lockO, itemsOf, unlock, freeS, wipeS, restS, D.flat, l1, l2, Stp.enc]
    · rw [if_neg h2]
      rw [decide_eq_false h2] at hab'
      have st5 : xs cf (.asg (.var 9) (.call bk (.cons (.var 1) (.cons (.var 6) (.cons (.var 4) .nil))))) ⟨[.sh (.str above), .sh (.str row), .ow L, .sh (.int p), .sh (ch c), A5, .sh (nt own), .sh (nt far), .sh (nt b), x9]⟩ = .nx ⟨[.sh (.str above), .sh (.str row), .ow L, .sh (.int p), .sh (ch c), A5, .sh (nt own), .sh (nt far), .sh (nt b), .sh (nt en)]⟩ := by simp [op2_some, ev_cst, ev_var, ev_bin, ev_neg, ev_not, ev_and, ev_or, ev_cmp, ev_chn, ev_isN, ev_notN, ev_ife, ev_tup, ev_lst, ev_idx, ev_slc, ev_call, ev_blt, ev_met, ev_joi, ev_lc, ev_isi, tst_eq, evI_eq, evs_nil, evs_cons, evF_nil, evF_cons, evo_no, evo_so, xs_asg, xs_asgT, xs_par, xs_sub, xs_exp, xs_ret, xs_retN, xs_if, xs_for, xs_whl, xs_brk, xs_rse, xs_cnt, xs_pas, xss_nil, xss_cons, itK_seq, itK_rng1, itK_rng2, itK_rng3, itK_enm, itK_zip, bind_ok, bind_bad, of_ok, fbind_nx, fbind_rt, fbind_bk, fbind_ct, ofO_some, ofS_some, cnt_v, cnt_o, cnt_b, cntS_eq, frz_v, frz_o, frz_b, fr_no, fr_sh, fr_ow, fr_le, fr_lf, fr_lk, putS_fr, mutS_eq, SZ, idxV, slcV, metV, mokV, mok, inS, isiV, joiV, idxR, ixN_nat, ixN_num, binR, addR, mulR, intR, cmpR, D.tr, CM, opd, slcR, bltR, metR, hand, lent, dist, back, cnts, asgT, asgTs, D.eqv, eqvL, D.pl, plL, D.dep, depL, lockO, itemsOf, unlock, freeS, wipeS, restS, D.flat, eE, f9]
      refine ⟨.sh (nt own), .sh (nt far), .sh (nt b), .sh (nt en), rfl, rfl, rfl, rfl, xss_go (if_t ec (xss_go st1 (xss_go st2 (xss_go st3 (xss_go (if_f ic (xss_go (s1 := ⟨[.sh (.str above), .sh (.str row), .ow (L ++ [e2 (Stp.plain (own - (q - 1)) (en - own), c)]), .sh (nt en), .sh (ch c), A5, .sh (nt own), .sh (nt far), .sh (nt b), .sh (nt en)]⟩) (if_f hab' (xss_go st5 ?_)) rfl)) rfl))))) rfl⟩
      have y1 : (en : Int) - (own : Int) = ((en - own : Nat) : Int) := by omega
      have y2 : (own : Int) - (if (0 : Int) > p then 0 else p) = ((own - (q - 1) : Nat) : Int) := by split <;> omega
      generalize en - own = a at *
      generalize own - (q - 1) = d at *
      by_cases y3 : p < 0
      · rw [if_pos y3] at y2
        have y2' : (own : Int) = (d : Int) := by omega
        simp [op2_some, ev_cst, ev_var, ev_bin, ev_neg, ev_not, ev_and, ev_or, ev_cmp, ev_chn, ev_isN, ev_notN, ev_ife, ev_tup, ev_lst, ev_idx, ev_slc, ev_call, ev_blt, ev_met, ev_joi, ev_lc, ev_isi, tst_eq, evI_eq, evs_nil, evs_cons, evF_nil, evF_cons, evo_no, evo_so, xs_asg, xs_asgT, xs_par, xs_sub, xs_exp, xs_ret, xs_retN, xs_if, xs_for, xs_whl, xs_brk, xs_rse, xs_cnt, xs_pas, xss_nil, xss_cons, itK_seq, itK_rng1, itK_rng2, itK_rng3, itK_enm, itK_zip, bind_ok, bind_bad, of_ok, fbind_nx, fbind_rt, fbind_bk, fbind_ct, ofO_some, ofS_some, cnt_v, cnt_o, cnt_b, cntS_eq, frz_v, frz_o, frz_b, fr_no, fr_sh, fr_ow, fr_le, fr_lf, fr_lk, putS_fr, mutS_eq, SZ, idxV, slcV, metV, mokV, mok, inS, isiV, joiV, idxR, ixN_nat, ixN_num, binR, addR, mulR, intR, cmpR, D.tr, CM, opd, slcR, bltR, metR, hand, lent, dist, back, cnts, asgT, asgTs, D.eqv, eqvL, D.pl, plL, D.dep, depL, lockO, itemsOf, unlock, freeS, wipeS, restS, D.flat, Stp.enc, y1, y3, l1, l2]; omega
      · rw [if_neg y3] at y2
        simp [op2_some, ev_cst, ev_var, ev_bin, ev_neg, ev_not, ev_and, ev_or, ev_cmp, ev_chn, ev_isN, ev_notN, ev_ife, ev_tup, ev_lst, ev_idx, ev_slc, ev_call, ev_blt, ev_met, ev_joi, ev_lc, ev_isi, tst_eq, evI_eq, evs_nil, evs_cons, evF_nil, evF_cons, evo_no, evo_so, xs_asg, xs_asgT, xs_par, xs_sub, xs_exp, xs_ret, xs_retN, xs_if, xs_for, xs_whl, xs_brk, xs_rse, xs_cnt, xs_pas, xss_nil, xss_cons, itK_seq, itK_rng1, itK_rng2, itK_rng3, itK_enm, itK_zip, bind_ok, bind_bad, of_ok, fbind_nx, fbind_rt, fbind_bk, fbind_ct, ofO_some, ofS_some, cnt_v, cnt_o, cnt_b, cntS_eq, frz_v, frz_o, frz_b, fr_no, fr_sh, fr_ow, fr_le, fr_lf, fr_lk, putS_fr, mutS_eq, SZ, idxV, slcV, metV, mokV, mok, inS, isiV, joiV, idxR, ixN_nat, ixN_num, binR, addR, mulR, intR, cmpR, D.tr, CM, opd, slcR, bltR, metR, hand, lent, dist, back, cnts, asgT, asgTs, D.eqv, eqvL, D.pl, plL, D.dep, depL, lockO, itemsOf, unlock, freeS, wipeS, restS, D.flat, Stp.enc, y1, y2, y3, l1, l2]
theorem lsteps_run (above row : List Nat) (hab : above.length = row.length) (hr : row.length ≤ 999) (hA : Sg above) (hS : Sg row) :
    runDf ⟨2, 10, lstepsBody ow fa bk⟩ cf [.sh (.str above), .sh (.str row)] = .ok (.o ((allSteps above row).map e2)) [.sh (.str above), .sh (.str row)] := by
  have z1 : row.length ≤ 16777216 := by omega
  obtain ⟨s', ⟨p, q, c, f, acc, x5, x6, x7, x8, x9, f5, f6, f7, f8, f9, hp, hq, hq2, hc, h0, hf, hfl, hacc, rfl⟩, h⟩ := forL_rng (t := .var 5) (lk := []) (n := row.length + 1) (fb := xss cf (lstepB ow fa bk)) (s := ⟨[.sh (.str above), .sh (.str row), .ow [], .sh (.int (-1)), .sh (ch 46), .no, .no, .no, .no, .no]⟩)
    (fun k s => ∃ (p : Int) (q c f : Nat) (acc : List (Stp × Nat)) (x5 x6 x7 x8 x9 : Slot), fr x5 = true ∧ fr x6 = true ∧ fr x7 = true ∧ fr x8 = true ∧ fr x9 = true ∧ p + 1 = (q : Int) ∧ k ≤ q ∧ q ≤ row.length + 1 ∧ Sn c ∧ (q = 0 → c = 46) ∧ row.length + 1 - q ≤ f ∧ f + acc.length ≤ 1001 ∧ acc ++ stepsG above row f q c = allSteps above row ∧
      s = ⟨[.sh (.str above), .sh (.str row), .ow (acc.map e2), .sh (.int p), .sh (ch c), x5, x6, x7, x8, x9]⟩)
    ⟨-1, 0, 46, row.length + 1, [], .no, .no, .no, .no, .no, rfl, rfl, rfl, rfl, rfl, rfl, by omega, by omega, .inl rfl, fun _ => rfl, by omega, by simp; omega, rfl, rfl⟩
    (fun k s hk ⟨p, q, c, f, acc, x5, x6, x7, x8, x9, f5, f6, f7, f8, f9, hp, hq, hq2, hc, h0, hf, hfl, hacc, e⟩ => by
      subst e
      by_cases hql : q ≤ row.length
      · obtain ⟨t1, t2, t3⟩ := step_to above row hab q c hc hql
        obtain ⟨y6, y7, y8, y9, g6, g7, g8, g9, hst⟩ := lstep_run hO hF hB above row hab (by omega) hA hS p q hp hql c hc h0 (acc.map e2) (by rw [List.length_map]; omega) (.sh (nt k)) x6 x7 x8 x9 f6 f7 f8 f9
        obtain ⟨f, rfl⟩ : ∃ f', f = f' + 1 := ⟨f - 1, by omega⟩
        unfold stepsG at hacc
        rw [if_pos hql] at hacc
        generalize stepF above row q c = r at *
        obtain ⟨st, p', c'⟩ := r
        dsimp only at t1 t2 t3 hacc hst
        refine ⟨_, _, putS_at (x := x5) rfl f5, .inl hst, p', p' + 1, c', f, acc ++ [(st, c)], .sh (nt k), y6, y7, y8, y9, rfl, g6, g7, g8, g9, rfl, by omega, by omega, t3, by omega, by omega, by simp; omega, by rw [List.append_assoc]; exact hacc, by rw [List.map_append]; rfl⟩
      · refine ⟨_, ⟨[.sh (.str above), .sh (.str row), .ow (acc.map e2), .sh (.int p), .sh (ch c), .sh (nt k), x6, x7, x8, x9]⟩, putS_at (x := x5) rfl f5, .inl (xss_go (if_f ?_ rfl) rfl), p, q, c, f, acc, .sh (nt k), x6, x7, x8, x9, rfl, f6, f7, f8, f9, hp, by omega, hq2, hc, h0, hf, hfl, hacc, rfl⟩
        have : ¬ p < (row.length : Int) := by omega
        show tst (ev cf _) ⟨[.sh (.str above), .sh (.str row), .ow (acc.map e2), .sh (.int p), .sh (ch c), .sh (nt k), x6, x7, x8, x9]⟩ = .ok false ⟨[.sh (.str above), .sh (.str row), .ow (acc.map e2), .sh (.int p), .sh (ch c), .sh (nt k), x6, x7, x8, x9]⟩
        simp [op2_some, ev_cst, ev_var, ev_bin, ev_neg, ev_not, ev_and, ev_or, ev_cmp, ev_chn, ev_isN, ev_notN, ev_ife, ev_tup, ev_lst, ev_idx, ev_slc, ev_call, ev_blt, ev_met, ev_joi, ev_lc, ev_isi, tst_eq, evI_eq, evs_nil, evs_cons, evF_nil, evF_cons, evo_no, evo_so, xs_asg, xs_asgT, xs_par, xs_sub, xs_exp, xs_ret, xs_retN, xs_if, xs_for, xs_whl, xs_brk, xs_rse, xs_cnt, xs_pas, xss_nil, xss_cons, itK_seq, itK_rng1, itK_rng2, itK_rng3, itK_enm, itK_zip, bind_ok, bind_bad, of_ok, fbind_nx, fbind_rt, fbind_bk, fbind_ct, ofO_some, ofS_some, cnt_v, cnt_o, cnt_b, cntS_eq, frz_v, frz_o, frz_b, fr_no, fr_sh, fr_ow, fr_le, fr_lf, fr_lk, putS_fr, mutS_eq, SZ, idxV, slcV, metV, mokV, mok, inS, isiV, joiV, idxR, ixN_nat, ixN_num, binR, addR, mulR, intR, cmpR, D.tr, CM, opd, slcR, bltR, metR, hand, lent, dist, back, cnts, asgT, asgTs, D.eqv, eqvL, D.pl, plL, D.dep, depL, lockO, itemsOf, unlock, freeS, wipeS, restS, D.flat, z1, this])
  rw [stepsG_end _ _ _ _ _ (by omega), List.append_nil] at hacc
  subst hacc
  have en : evs cf (.cons (.bin .add (.blt .len (.cons (.var 1) .nil)) (.cst (.int 1))) .nil) ⟨[.sh (.str above), .sh (.str row), .ow [], .sh (.int (-1)), .sh (ch 46), .no, .no, .no, .no, .no]⟩ = .ok [.v (nt (row.length + 1))] ⟨[.sh (.str above), .sh (.str row), .ow [], .sh (.int (-1)), .sh (ch 46), .no, .no, .no, .no, .no]⟩ := by simp [op2_some, ev_cst, ev_var, ev_bin, ev_neg, ev_not, ev_and, ev_or, ev_cmp, ev_chn, ev_isN, ev_notN, ev_ife, ev_tup, ev_lst, ev_idx, ev_slc, ev_call, ev_blt, ev_met, ev_joi, ev_lc, ev_isi, tst_eq, evI_eq, evs_nil, evs_cons, evF_nil, evF_cons, evo_no, evo_so, xs_asg, xs_asgT, xs_par, xs_sub, xs_exp, xs_ret, xs_retN, xs_if, xs_for, xs_whl, xs_brk, xs_rse, xs_cnt, xs_pas, xss_nil, xss_cons, itK_seq, itK_rng1, itK_rng2, itK_rng3, itK_enm, itK_zip, bind_ok, bind_bad, of_ok, fbind_nx, fbind_rt, fbind_bk, fbind_ct, ofO_some, ofS_some, cnt_v, cnt_o, cnt_b, cntS_eq, frz_v, frz_o, frz_b, fr_no, fr_sh, fr_ow, fr_le, fr_lf, fr_lk, putS_fr, mutS_eq, SZ, idxV, slcV, metV, mokV, mok, inS, isiV, joiV, idxR, ixN_nat, ixN_num, binR, addR, mulR, intR, cmpR, D.tr, CM, opd, slcR, bltR, metR, hand, lent, dist, back, cnts, asgT, asgTs, D.eqv, eqvL, D.pl, plL, D.dep, depL, lockO, itemsOf, unlock, freeS, wipeS, restS, D.flat, z1]
  exact run_o (s := ⟨[.sh (.str above), .sh (.str row), .no, .sh (.int p), .sh (ch c), x5, x6, x7, x8, x9]⟩) ⟨rfl, (show 2 ≤ 10 from by decide)⟩ (xss_go (s1 := ⟨[.sh (.str above), .sh (.str row), .ow [], .no, .no, .no, .no, .no, .no, .no]⟩) rfl (xss_go (s1 := ⟨[.sh (.str above), .sh (.str row), .ow [], .sh (.int (-1)), .no, .no, .no, .no, .no, .no]⟩) rfl (xss_go (s1 := ⟨[.sh (.str above), .sh (.str row), .ow [], .sh (.int (-1)), .sh (ch 46), .no, .no, .no, .no, .no]⟩) rfl (xss_go (for_go (rng_go en (by omega)) h) rfl)))) rfl rfl
end
end Z

/-! Z: tellings of rows. -/
namespace Z
/-! plain ones -/
def tell (c : Nat) : List Nat → List Nat
  | [] => []
  | r :: rs => runW c r ++ tell (flip1 c) rs
theorem tell_len : ∀ (rs : List Nat) (c : Nat), (tell c rs).length ≤ 14 * rs.length
  | [], _ => Nat.le_refl _
  | r :: rs, c => by
    have := tell_len rs (flip1 c)
    have := runW_len c r
    show (runW c r ++ tell (flip1 c) rs).length ≤ _
    rw [List.length_append, List.length_cons]; omega
def plainF (row : List Nat) : List Nat := tell 46 (runsG 46 0 row)
theorem plainF_len (row : List Nat) : (plainF row).length ≤ 14 * (row.length + 1) := by
  have := tell_len (runsG 46 0 row) 46
  have := (runs_len row 46 0).1
  unfold plainF; omega
def RunBits (cf : Nat → List Slot → Co) (rb : Nat) : Prop := ∀ c r, r ≤ 64 → cf rb [.sh (ch c), .sh (nt r)] = .ok (.v (.str (runW c r))) [.sh (ch c), .sh (nt r)]
def plainB (rb ot : Nat) : Ss := (.cons (.asg (.var 1) (.bin .add (.var 1) (.call rb (.cons (.var 2) (.cons (.var 3) .nil)))))
  (.cons (.asg (.var 2) (.call ot (.cons (.var 2) .nil)))
  .nil))
def plainBody (ro rb ot : Nat) : Ss :=
  (.cons (.asg (.var 1) (.cst (.str [])))
  (.cons (.asg (.var 2) (.cst (.str [46])))
  (.cons (.fors (.var 3) .seq (.cons (.call ro (.cons (.var 0) .nil)) .nil) (plainB rb ot))
  (.cons (.ret (.var 1))
  .nil))))
theorem plain_loop {cf : Nat → List Slot → Co} {rb ot : Nat} (hr : RunBits cf rb) (ho : Others cf ot) (A : Slot) : ∀ (rs : List Nat) (c : Nat) (f : List Nat) (y : Slot), fr y = true → (∀ r ∈ rs, r ≤ 64) → f.length + 14 * rs.length ≤ 1000000 →
    ∃ (c' : Nat) (z : Slot), forL (.var 3) [] (xss cf (plainB rb ot)) (rs.map nt) ⟨[A, .sh (.str f), .sh (ch c), y]⟩ = .nx ⟨[A, .sh (.str (f ++ tell c rs)), .sh (ch c'), z]⟩ := by
  intro rs
  induction rs with
  | nil => intro c f y _ _ _; exact ⟨c, y, by simp [tell, forL, unlock]⟩
  | cons r rs ih =>
    intro c f y fy hle hl
    rw [List.length_cons] at hl
    have h1 : asgT (.var 3) (nt r) ⟨[A, .sh (.str f), .sh (ch c), y]⟩ = some ⟨[A, .sh (.str f), .sh (ch c), .sh (nt r)]⟩ := putS_at (x := y) rfl fy
    have e1 := hr c r (hle r (List.mem_cons_self ..))
    have e2 := ho c
    have lw := runW_len c r
    have h2 : xss cf (plainB rb ot) ⟨[A, .sh (.str f), .sh (ch c), .sh (nt r)]⟩ = .nx ⟨[A, .sh (.str (f ++ runW c r)), .sh (ch (flip1 c)), .sh (nt r)]⟩ := by
      generalize runW c r = w at *
      have z1 : f.length + w.length ≤ 16777216 := by omega
      simp [plainB, op2_some, ev_cst, ev_var, ev_bin, ev_neg, ev_not, ev_and, ev_or, ev_cmp, ev_chn, ev_isN, ev_notN, ev_ife, ev_tup, ev_lst, ev_idx, ev_slc, ev_call, ev_blt, ev_met, ev_joi, ev_lc, ev_isi, tst_eq, evI_eq, evs_nil, evs_cons, evF_nil, evF_cons, evo_no, evo_so, xs_asg, xs_asgT, xs_par, xs_sub, xs_exp, xs_ret, xs_retN, xs_if, xs_for, xs_whl, xs_brk, xs_rse, xs_cnt, xs_pas, xss_nil, xss_cons, itK_seq, itK_rng1, itK_rng2, itK_rng3, itK_enm, itK_zip, bind_ok, bind_bad, of_ok, fbind_nx, fbind_rt, fbind_bk, fbind_ct, ofO_some, ofS_some, cnt_v, cnt_o, cnt_b, cntS_eq, frz_v, frz_o, frz_b, fr_no, fr_sh, fr_ow, fr_le, fr_lf, fr_lk, putS_fr, mutS_eq, SZ, idxV, slcV, metV, mokV, mok, inS, isiV, joiV, idxR, ixN_nat, ixN_num, binR, addR, mulR, intR, cmpR, D.tr, CM, opd, slcR, bltR, metR, hand, lent, dist, back, cnts, asgT, asgTs, D.eqv, eqvL, D.pl, plL, D.dep, depL, lockO, itemsOf, unlock, freeS, wipeS, restS, D.flat, e1, e2, z1]
    obtain ⟨c', z, h3⟩ := ih (flip1 c) (f ++ runW c r) (.sh (nt r)) rfl (fun x hx => hle x (List.mem_cons_of_mem _ hx)) (by rw [List.length_append]; omega)
    refine ⟨c', z, ?_⟩
    rw [List.map_cons]
    unfold forL
    rw [h1]
    dsimp only
    rw [h2]
    show forL _ _ _ _ _ = _
    rw [h3, List.append_assoc]; rfl
theorem plain_run {cf : Nat → List Slot → Co} {ro rb ot : Nat} (hr : RunBits cf rb) (ho : Others cf ot) (row : List Nat) (h64 : row.length ≤ 64) (hru : cf ro [.sh (.str row)] = .ok (.o ((runsG 46 0 row).map nt)) [.sh (.str row)]) :
    runDf ⟨1, 4, plainBody ro rb ot⟩ cf [.sh (.str row)] = .ok (.v (.str (plainF row))) [.sh (.str row)] := by
  have hle : ∀ r ∈ runsG 46 0 row, r ≤ 64 := fun r h => by have := runs_le row 46 0 r h; omega
  have hlen := (runs_len row 46 0).1
  obtain ⟨c', z, h⟩ := plain_loop hr ho (.sh (.str row)) (runsG 46 0 row) 46 [] .no rfl hle (by simp; omega)
  rw [List.nil_append] at h
  have hc := call_o (cf := cf) (f := ro) (es := .cons (.var 0) .nil) (s := ⟨[.sh (.str row), .sh (.str []), .sh (ch 46), .no]⟩) (s1 := ⟨[.sh (.str row), .sh (.str []), .sh (ch 46), .no]⟩) (rs := [.v (.str row)]) rfl rfl rfl hru (s2 := ⟨[.sh (.str row), .sh (.str []), .sh (ch 46), .no]⟩) rfl
  have hit : evI .seq (evs cf (.cons (.call ro (.cons (.var 0) .nil)) .nil)) ⟨[.sh (.str row), .sh (.str []), .sh (ch 46), .no]⟩ = .ok ((runsG 46 0 row).map nt, []) ⟨[.sh (.str row), .sh (.str []), .sh (ch 46), .no]⟩ := by
    have := evs_go hc (rfl : evs cf .nil _ = .ok [] _)
    unfold evI
    rw [this]; rfl
  exact run_v (s := ⟨[.sh (.str row), .sh (.str (plainF row)), .sh (ch c'), z]⟩) ⟨rfl, (show 1 ≤ 4 from by decide)⟩ (xss_go (s1 := ⟨[.sh (.str row), .sh (.str []), .no, .no]⟩) rfl (xss_go (s1 := ⟨[.sh (.str row), .sh (.str []), .sh (ch 46), .no]⟩) rfl (xss_go (for_in hit h) rfl))) rfl rfl
/-! the law's own -/
def LRuns (cf : Nat → List Slot → Co) (lr : Nat) : Prop := ∀ c r, Sn c → r ≤ 64 → cf lr [.le tabs, .sh (ch c), .sh (nt r)] = .ok (.v (.str (runW c r))) [.le tabs, .sh (ch c), .sh (nt r)]
def flipE (v : Nat) : Ex := (.idx (.cst (.str [46, 35])) (.blt .int (.cons (.cmp .eq (.var v) (.cst (.str [46]))) .nil)))
def lplainB (lr : Nat) : Ss := (.cons (.iff (.or (.cmp .eq (.var 5) (.blt .len (.cons (.var 1) .nil))) (.cmp .ne (.idx (.var 1) (.var 5)) (.var 3))) (.cons (.asg (.var 2) (.bin .add (.var 2) (.call lr (.cons (.var 0) (.cons (.var 3) (.cons (.bin .sub (.var 5) (.var 4)) .nil))))))
  (.cons (.asg (.var 3) (flipE 3))
  (.cons (.asg (.var 4) (.var 5))
  .nil))) .nil)
  .nil)
def lplainBody (lr : Nat) : Ss :=
  (.cons (.asg (.var 2) (.cst (.str [])))
  (.cons (.asg (.var 3) (.cst (.str [46])))
  (.cons (.asg (.var 4) (.cst (.int 0)))
  (.cons (.fors (.var 5) .rng1 (.cons (.bin .add (.blt .len (.cons (.var 1) .nil)) (.cst (.int 1))) .nil) (lplainB lr))
  (.cons (.ret (.var 2))
  .nil)))))
theorem lplain_step {cf : Nat → List Slot → Co} {lr : Nat} (hr : LRuns cf lr) (row f : List Nat) (h64 : row.length ≤ 64) (hf : f.length ≤ 10000) (c b k : Nat) (hc : Sn c) (hb : b ≤ k) (hk : k ≤ row.length) :
    xss cf (lplainB lr) ⟨[.le tabs, .sh (.str row), .sh (.str f), .sh (ch c), .sh (nt b), .sh (nt k)]⟩ = .nx (if k = row.length ∨ row.getD k 0 ≠ c then ⟨[.le tabs, .sh (.str row), .sh (.str (f ++ runW c (k - b))), .sh (ch (flip1 c)), .sh (nt k), .sh (nt k)]⟩ else ⟨[.le tabs, .sh (.str row), .sh (.str f), .sh (ch c), .sh (nt b), .sh (nt k)]⟩) := by
  have z1 : row.length ≤ 16777216 := by omega
  have e1 := hr c (k - b) hc (by omega)
  have lw := runW_len c (k - b)
  have hsub : (k : Int) - (b : Int) = ((k - b : Nat) : Int) := by omega
  generalize runW c (k - b) = w at *
  generalize k - b = m at *
  generalize tabs = T at *
  have body : xss cf (.cons (.asg (.var 2) (.bin .add (.var 2) (.call lr (.cons (.var 0) (.cons (.var 3) (.cons (.bin .sub (.var 5) (.var 4)) .nil)))))) (.cons (.asg (.var 3) (flipE 3)) (.cons (.asg (.var 4) (.var 5)) .nil))) ⟨[.le T, .sh (.str row), .sh (.str f), .sh (ch c), .sh (nt b), .sh (nt k)]⟩
      = .nx ⟨[.le T, .sh (.str row), .sh (.str (f ++ w)), .sh (ch (flip1 c)), .sh (nt k), .sh (nt k)]⟩ := by
    have z2 : f.length + w.length ≤ 16777216 := by omega
    unfold flip1 flipE
    rcases hc with rfl | rfl
    · simp [op2_some, ev_cst, ev_var, ev_bin, ev_neg, ev_not, ev_and, ev_or, ev_cmp, ev_chn, ev_isN, ev_notN, ev_ife, ev_tup, ev_lst, ev_idx, ev_slc, ev_call, ev_blt, ev_met, ev_joi, ev_lc, ev_isi, tst_eq, evI_eq, evs_nil, evs_cons, evF_nil, evF_cons, evo_no, evo_so, xs_asg, xs_asgT, xs_par, xs_sub, xs_exp, xs_ret, xs_retN, xs_if, xs_for, xs_whl, xs_brk, xs_rse, xs_cnt, xs_pas, xss_nil, xss_cons, itK_seq, itK_rng1, itK_rng2, itK_rng3, itK_enm, itK_zip, bind_ok, bind_bad, of_ok, fbind_nx, fbind_rt, fbind_bk, fbind_ct, ofO_some, ofS_some, cnt_v, cnt_o, cnt_b, cntS_eq, frz_v, frz_o, frz_b, fr_no, fr_sh, fr_ow, fr_le, fr_lf, fr_lk, putS_fr, mutS_eq, SZ, idxV, slcV, metV, mokV, mok, inS, isiV, joiV, idxR, ixN_nat, ixN_num, binR, addR, mulR, intR, cmpR, D.tr, CM, opd, slcR, bltR, metR, hand, lent, dist, back, cnts, asgT, asgTs, D.eqv, eqvL, D.pl, plL, D.dep, depL, lockO, itemsOf, unlock, freeS, wipeS, restS, D.flat, hsub, e1, z2]
    · simp [op2_some, ev_cst, ev_var, ev_bin, ev_neg, ev_not, ev_and, ev_or, ev_cmp, ev_chn, ev_isN, ev_notN, ev_ife, ev_tup, ev_lst, ev_idx, ev_slc, ev_call, ev_blt, ev_met, ev_joi, ev_lc, ev_isi, tst_eq, evI_eq, evs_nil, evs_cons, evF_nil, evF_cons, evo_no, evo_so, xs_asg, xs_asgT, xs_par, xs_sub, xs_exp, xs_ret, xs_retN, xs_if, xs_for, xs_whl, xs_brk, xs_rse, xs_cnt, xs_pas, xss_nil, xss_cons, itK_seq, itK_rng1, itK_rng2, itK_rng3, itK_enm, itK_zip, bind_ok, bind_bad, of_ok, fbind_nx, fbind_rt, fbind_bk, fbind_ct, ofO_some, ofS_some, cnt_v, cnt_o, cnt_b, cntS_eq, frz_v, frz_o, frz_b, fr_no, fr_sh, fr_ow, fr_le, fr_lf, fr_lk, putS_fr, mutS_eq, SZ, idxV, slcV, metV, mokV, mok, inS, isiV, joiV, idxR, ixN_nat, ixN_num, binR, addR, mulR, intR, cmpR, D.tr, CM, opd, slcR, bltR, metR, hand, lent, dist, back, cnts, asgT, asgTs, D.eqv, eqvL, D.pl, plL, D.dep, depL, lockO, itemsOf, unlock, freeS, wipeS, restS, D.flat, hsub, e1, z2]
  unfold lplainB
  by_cases hkl : k = row.length
  · subst hkl
    rw [if_pos (.inl rfl)]
    exact xss_go (if_t (s1 := ⟨[.le T, .sh (.str row), .sh (.str f), .sh (ch c), .sh (nt b), .sh (nt row.length)]⟩) (by simp [op2_some, ev_cst, ev_var, ev_bin, ev_neg, ev_not, ev_and, ev_or, ev_cmp, ev_chn, ev_isN, ev_notN, ev_ife, ev_tup, ev_lst, ev_idx, ev_slc, ev_call, ev_blt, ev_met, ev_joi, ev_lc, ev_isi, tst_eq, evI_eq, evs_nil, evs_cons, evF_nil, evF_cons, evo_no, evo_so, xs_asg, xs_asgT, xs_par, xs_sub, xs_exp, xs_ret, xs_retN, xs_if, xs_for, xs_whl, xs_brk, xs_rse, xs_cnt, xs_pas, xss_nil, xss_cons, itK_seq, itK_rng1, itK_rng2, itK_rng3, itK_enm, itK_zip, bind_ok, bind_bad, of_ok, fbind_nx, fbind_rt, fbind_bk, fbind_ct, ofO_some, ofS_some, cnt_v, cnt_o, cnt_b, cntS_eq, frz_v, frz_o, frz_b, fr_no, fr_sh, fr_ow, fr_le, fr_lf, fr_lk, putS_fr, mutS_eq, SZ, idxV, slcV, metV, mokV, mok, inS, isiV, joiV, idxR, ixN_nat, ixN_num, binR, addR, mulR, intR, cmpR, D.tr, CM, opd, slcR, bltR, metR, hand, lent, dist, back, cnts, asgT, asgTs, D.eqv, eqvL, D.pl, plL, D.dep, depL, lockO, itemsOf, unlock, freeS, wipeS, restS, D.flat, z1]) body) rfl
  · have hk2 : k < row.length := by omega
    have e5 : row[k] = row.getD k 0 := by rw [List.getD_eq_getElem?_getD, List.getElem?_eq_getElem hk2]; rfl
    have hne : ¬ (k : Int) = (row.length : Int) := by omega
    have hne2 : ((k : Int) == (row.length : Int)) = false := by rw [beq_eq_false_iff_ne]; exact hne
    generalize row.getD k 0 = d at *
    by_cases hd : d = c
    · rw [if_neg (fun h => h.elim hkl fun h => h hd)]
      exact xss_go (if_f (s1 := ⟨[.le T, .sh (.str row), .sh (.str f), .sh (ch c), .sh (nt b), .sh (nt k)]⟩) (by simp [op2_some, ev_cst, ev_var, ev_bin, ev_neg, ev_not, ev_and, ev_or, ev_cmp, ev_chn, ev_isN, ev_notN, ev_ife, ev_tup, ev_lst, ev_idx, ev_slc, ev_call, ev_blt, ev_met, ev_joi, ev_lc, ev_isi, tst_eq, evI_eq, evs_nil, evs_cons, evF_nil, evF_cons, evo_no, evo_so, xs_asg, xs_asgT, xs_par, xs_sub, xs_exp, xs_ret, xs_retN, xs_if, xs_for, xs_whl, xs_brk, xs_rse, xs_cnt, xs_pas, xss_nil, xss_cons, itK_seq, itK_rng1, itK_rng2, itK_rng3, itK_enm, itK_zip, bind_ok, bind_bad, of_ok, fbind_nx, fbind_rt, fbind_bk, fbind_ct, ofO_some, ofS_some, cnt_v, cnt_o, cnt_b, cntS_eq, frz_v, frz_o, frz_b, fr_no, fr_sh, fr_ow, fr_le, fr_lf, fr_lk, putS_fr, mutS_eq, SZ, idxV, slcV, metV, mokV, mok, inS, isiV, joiV, idxR, ixN_nat, ixN_num, binR, addR, mulR, intR, cmpR, D.tr, CM, opd, slcR, bltR, metR, hand, lent, dist, back, cnts, asgT, asgTs, D.eqv, eqvL, D.pl, plL, D.dep, depL, lockO, itemsOf, unlock, freeS, wipeS, restS, D.flat, z1, hk2, e5, hd, hkl, hne2]) rfl) rfl
    · rw [if_pos (.inr hd)]
      exact xss_go (if_t (s1 := ⟨[.le T, .sh (.str row), .sh (.str f), .sh (ch c), .sh (nt b), .sh (nt k)]⟩) (by simp [op2_some, ev_cst, ev_var, ev_bin, ev_neg, ev_not, ev_and, ev_or, ev_cmp, ev_chn, ev_isN, ev_notN, ev_ife, ev_tup, ev_lst, ev_idx, ev_slc, ev_call, ev_blt, ev_met, ev_joi, ev_lc, ev_isi, tst_eq, evI_eq, evs_nil, evs_cons, evF_nil, evF_cons, evo_no, evo_so, xs_asg, xs_asgT, xs_par, xs_sub, xs_exp, xs_ret, xs_retN, xs_if, xs_for, xs_whl, xs_brk, xs_rse, xs_cnt, xs_pas, xss_nil, xss_cons, itK_seq, itK_rng1, itK_rng2, itK_rng3, itK_enm, itK_zip, bind_ok, bind_bad, of_ok, fbind_nx, fbind_rt, fbind_bk, fbind_ct, ofO_some, ofS_some, cnt_v, cnt_o, cnt_b, cntS_eq, frz_v, frz_o, frz_b, fr_no, fr_sh, fr_ow, fr_le, fr_lf, fr_lk, putS_fr, mutS_eq, SZ, idxV, slcV, metV, mokV, mok, inS, isiV, joiV, idxR, ixN_nat, ixN_num, binR, addR, mulR, intR, cmpR, D.tr, CM, opd, slcR, bltR, metR, hand, lent, dist, back, cnts, asgT, asgTs, D.eqv, eqvL, D.pl, plL, D.dep, depL, lockO, itemsOf, unlock, freeS, wipeS, restS, D.flat, z1, hk2, e5, hd, hkl, hne2]) body) rfl
theorem lplain_run {cf : Nat → List Slot → Co} {lr : Nat} (hr : LRuns cf lr) (row : List Nat) (h64 : row.length ≤ 64) (hS : Sg row) :
    runDf ⟨2, 6, lplainBody lr⟩ cf [.le tabs, .sh (.str row)] = .ok (.v (.str (plainF row))) [.le tabs, .sh (.str row)] := by
  have z1 : row.length ≤ 16777216 := by omega
  obtain ⟨s', ⟨f, c, b, x5, f5, hf, hc, hb, h1, h2, rfl⟩, h⟩ := forL_rng (t := .var 5) (lk := []) (n := row.length + 1) (fb := xss cf (lplainB lr)) (s := ⟨[.le tabs, .sh (.str row), .sh (.str []), .sh (ch 46), .sh (nt 0), .no]⟩)
    (fun k s => ∃ (f : List Nat) (c b : Nat) (x5 : Slot), fr x5 = true ∧ f.length ≤ 14 * k ∧ Sn c ∧ b ≤ k ∧ (k ≤ row.length → f ++ tell c (runsG c (k - b) (row.drop k)) = plainF row) ∧ (k = row.length + 1 → f = plainF row) ∧ s = ⟨[.le tabs, .sh (.str row), .sh (.str f), .sh (ch c), .sh (nt b), x5]⟩)
    ⟨[], 46, 0, .no, rfl, Nat.le_refl _, .inl rfl, Nat.le_refl _, fun _ => rfl, fun h => by omega, rfl⟩ (fun k s hk ⟨f, c, b, x5, f5, hf, hc, hb, h1, h2, e⟩ => by
      subst e
      have hs := lplain_step hr row f h64 (by omega) c b k hc hb (by omega)
      have h1 := h1 (by omega)
      have lw := runW_len c (k - b)
      by_cases hcond : k = row.length ∨ row.getD k 0 ≠ c
      · rw [if_pos hcond] at hs
        refine ⟨_, _, putS_at (x := x5) rfl f5, .inl hs, f ++ runW c (k - b), flip1 c, k, .sh (nt k), rfl, by rw [List.length_append]; omega, flip_sn hc, by omega, fun h => ?_, fun h => ?_, rfl⟩
        · have hk2 : k < row.length := by omega
          have hd : row.getD k 0 ≠ c := hcond.resolve_left (by omega)
          have e5 : row[k] = row.getD k 0 := by rw [List.getD_eq_getElem?_getD, List.getElem?_eq_getElem hk2]; rfl
          have hfl : row.getD k 0 = flip1 c := (sn_two hc (hS.at k hk2)).resolve_left hd
          rw [List.drop_eq_getElem_cons hk2, e5, hfl] at h1
          unfold runsG at h1
          rw [if_neg (flip_ne hc)] at h1
          rw [← h1, List.append_assoc, show k + 1 - k = 1 from by omega]; rfl
        · have : k = row.length := by omega
          subst this
          rw [List.drop_length] at h1
          rw [← h1]
          simp [runsG, tell]
      · rw [if_neg hcond] at hs
        have hk2 : k < row.length := by omega
        have e5 : row[k] = row.getD k 0 := by rw [List.getD_eq_getElem?_getD, List.getElem?_eq_getElem hk2]; rfl
        have hd : row.getD k 0 = c := Classical.not_not.mp fun h => hcond (.inr h)
        rw [List.drop_eq_getElem_cons hk2, e5, hd] at h1
        unfold runsG at h1
        rw [if_pos rfl] at h1
        refine ⟨_, _, putS_at (x := x5) rfl f5, .inl hs, f, c, b, .sh (nt k), rfl, by omega, hc, by omega, fun h => ?_, fun h => ?_, rfl⟩
        · rw [← h1, show k + 1 - b = k - b + 1 from by omega]
        · omega)
  have h2 := h2 rfl
  subst h2
  have en : evs cf (.cons (.bin .add (.blt .len (.cons (.var 1) .nil)) (.cst (.int 1))) .nil) ⟨[.le tabs, .sh (.str row), .sh (.str []), .sh (ch 46), .sh (nt 0), .no]⟩ = .ok [.v (nt (row.length + 1))] ⟨[.le tabs, .sh (.str row), .sh (.str []), .sh (ch 46), .sh (nt 0), .no]⟩ := by
    generalize tabs = T
    simp [op2_some, ev_cst, ev_var, ev_bin, ev_neg, ev_not, ev_and, ev_or, ev_cmp, ev_chn, ev_isN, ev_notN, ev_ife, ev_tup, ev_lst, ev_idx, ev_slc, ev_call, ev_blt, ev_met, ev_joi, ev_lc, ev_isi, tst_eq, evI_eq, evs_nil, evs_cons, evF_nil, evF_cons, evo_no, evo_so, xs_asg, xs_asgT, xs_par, xs_sub, xs_exp, xs_ret, xs_retN, xs_if, xs_for, xs_whl, xs_brk, xs_rse, xs_cnt, xs_pas, xss_nil, xss_cons, itK_seq, itK_rng1, itK_rng2, itK_rng3, itK_enm, itK_zip, bind_ok, bind_bad, of_ok, fbind_nx, fbind_rt, fbind_bk, fbind_ct, ofO_some, ofS_some, cnt_v, cnt_o, cnt_b, cntS_eq, frz_v, frz_o, frz_b, fr_no, fr_sh, fr_ow, fr_le, fr_lf, fr_lk, putS_fr, mutS_eq, SZ, idxV, slcV, metV, mokV, mok, inS, isiV, joiV, idxR, ixN_nat, ixN_num, binR, addR, mulR, intR, cmpR, D.tr, CM, opd, slcR, bltR, metR, hand, lent, dist, back, cnts, asgT, asgTs, D.eqv, eqvL, D.pl, plL, D.dep, depL, lockO, itemsOf, unlock, freeS, wipeS, restS, D.flat, z1]
  exact run_v (s := ⟨[.le tabs, .sh (.str row), .sh (.str (plainF row)), .sh (ch c), .sh (nt b), x5]⟩) ⟨rfl, (show 2 ≤ 6 from by decide)⟩ (xss_go (s1 := ⟨[.le tabs, .sh (.str row), .sh (.str []), .no, .no, .no]⟩) rfl (xss_go (s1 := ⟨[.le tabs, .sh (.str row), .sh (.str []), .sh (ch 46), .no, .no]⟩) rfl (xss_go (s1 := ⟨[.le tabs, .sh (.str row), .sh (.str []), .sh (ch 46), .sh (nt 0), .no]⟩) rfl (xss_go (for_go (rng_go en (by omega)) h) rfl)))) rfl rfl
/-! by the row above -/
def nearI (d : Int) : Nat := if d = 0 then 0 else if d = 1 then 1 else if d = -1 then 2 else if d = 2 then 5 else if d = -2 then 6 else if d = 3 then 7 else 8
def stW (i : Nat) : List Nat := StW.getD i []
def tellS (x : Stp × Nat) : List Nat := match x.1 with
  | .passed => stW 4
  | .near d => stW (nearI d)
  | .plain a b => stW 3 ++ (runW x.2 a ++ runW (flip1 x.2) b)
def okS (x : Stp) : Prop := match x with
  | .passed => True
  | .near d => -3 ≤ d ∧ d ≤ 3
  | .plain a b => a ≤ 64 ∧ b ≤ 64
def aboveF (above row : List Nat) : List Nat := ((allSteps above row).map tellS).flatten
theorem stW_len (i : Nat) : (stW i).length ≤ 6 := by
  unfold stW
  have h1 : ∀ w ∈ StW, w.length ≤ 6 := by decide
  rw [List.getD_eq_getElem?_getD]
  cases h : StW[i]? with
  | none => exact Nat.zero_le _
  | some w => exact h1 w (List.mem_of_getElem? h)
theorem tellS_len (x : Stp × Nat) : (tellS x).length ≤ 34 := by
  obtain ⟨st, c⟩ := x
  cases st with
  | passed => have := stW_len 4; show (stW 4).length ≤ 34; omega
  | near d => have := stW_len (nearI d); show (stW (nearI d)).length ≤ 34; omega
  | plain a b =>
    have := stW_len 3
    have := runW_len c a
    have := runW_len (flip1 c) b
    show (stW 3 ++ (runW c a ++ runW (flip1 c) b)).length ≤ 34
    rw [List.length_append, List.length_append]; omega
theorem step_ok (above row : List Nat) (hab : above.length = row.length) (h64 : row.length ≤ 64) (q c : Nat) (hq : q ≤ row.length) : okS (stepF above row q c).1 := by
  obtain ⟨o1, o2⟩ : q ≤ ownF row q c ∧ ownF row q c ≤ row.length := ⟨(first_spec (isC row (flip1 c)) q row.length hq).1, (first_spec (isC row (flip1 c)) q row.length hq).2.1⟩
  obtain ⟨g1, g2, _, _⟩ := first_spec (isC row c) (ownF row q c) row.length o2
  unfold stepF
  split
  · trivial
  · split
    · rename_i h
      show -3 ≤ (ownF row q c : Int) - (farF above q c : Int) ∧ (ownF row q c : Int) - (farF above q c : Int) ≤ 3
      omega
    · show ownF row q c - (q - 1) ≤ 64 ∧ firstF (isC row c) (ownF row q c) row.length - ownF row q c ≤ 64
      omega
theorem stepsG_ok (above row : List Nat) (hab : above.length = row.length) (h64 : row.length ≤ 64) : ∀ (f q c : Nat), Sn c → ∀ x ∈ stepsG above row f q c, okS x.1 ∧ Sn x.2
  | 0, _, _, _, x, h => by cases h
  | f + 1, q, c, hc, x, h => by
    unfold stepsG at h
    split at h
    · rename_i hq
      obtain ⟨t1, t2, t3⟩ := step_to above row hab q c hc hq
      rcases List.mem_cons.mp h with rfl | h
      · exact ⟨step_ok above row hab h64 q c hq, hc⟩
      · exact stepsG_ok above row hab h64 f _ _ t3 x h
    · cases h
def Nears (cf : Nat → List Slot → Co) (ne : Nat) : Prop := cf ne [] = .ok (.o [.int 0, .int 1, .int (-1), .non, .non, .int 2, .int (-2), .int 3, .int (-3)]) []
def stTup : D := .tup (StW.map .str)
def abitsI (rb ot ne : Nat) : Sx := (.iff (.cmp .eq (.idx (.var 6) (.cst (.int 0))) (.cst (.str [112, 108, 97, 105, 110]))) (.cons (.asg (.var 2) (.bin .add (.bin .add (.bin .add (.var 2) (.idx (.cst stTup) (.cst (.int 3)))) (.call rb (.cons (.var 5) (.cons (.idx (.var 6) (.cst (.int 1))) .nil)))) (.call rb (.cons (.call ot (.cons (.var 5) .nil)) (.cons (.idx (.var 6) (.cst (.int 2))) .nil)))))
  .nil) (.cons (.iff (.cmp .eq (.idx (.var 6) (.cst (.int 0))) (.cst (.str [112, 97, 115, 115, 101, 100]))) (.cons (.asg (.var 2) (.bin .add (.var 2) (.idx (.cst stTup) (.cst (.int 4)))))
  .nil) (.cons (.asg (.var 2) (.bin .add (.var 2) (.idx (.cst stTup) (.met .index (.call ne .nil) (.cons (.idx (.var 6) (.cst (.int 1))) .nil)))))
  .nil))
  .nil))
theorem near_cases {d : Int} (h : -3 ≤ d ∧ d ≤ 3) : d = 0 ∨ d = 1 ∨ d = -1 ∨ d = 2 ∨ d = -2 ∨ d = 3 ∨ d = -3 := by omega
theorem abitsI_run {cf : Nat → List Slot → Co} {rb ot ne : Nat} (hr : RunBits cf rb) (ho : Others cf ot) (hn : Nears cf ne) (A B P C6 : Slot) (f : List Nat) (hf : f.length ≤ 100000) (st : Stp) (c : Nat) (hs : okS st) :
    xs cf (abitsI rb ot ne) ⟨[A, B, .sh (.str f), P, C6, .sh (ch c), .sh st.enc]⟩ = .nx ⟨[A, B, .sh (.str (f ++ tellS (st, c))), P, C6, .sh (ch c), .sh st.enc]⟩ := by
  have ix : ∀ (i : Nat), i < 9 → idxR stTup (.int (i : Int)) = some (.str (stW i)) := fun i hi => idx_tupW StW i hi
  cases st with
  | passed =>
    have i4 := ix 4 (by decide)
    have l4 := stW_len 4
    show _ = Fo.nx ⟨[A, B, .sh (.str (f ++ stW 4)), P, C6, .sh (ch c), .sh _]⟩
    have x4 := idx_go (cf := cf) (a := .cst stTup) (b := .cst (.int 4)) (s := ⟨[A, B, .sh (.str f), P, C6, .sh (ch c), .sh Stp.passed.enc]⟩) rfl rfl rfl rfl i4
    unfold abitsI
    generalize stW 4 = w at *
    have z1 : f.length + w.length ≤ 16777216 := by omega
    generalize (Ex.idx (.cst stTup) (.cst (.int 4))) = E at x4 ⊢
    generalize (Ex.idx (.cst stTup) (.cst (.int 3))) = E3
    simp only [Stp.enc] at x4 ⊢
    simp [op2_some, ev_cst, ev_var, ev_bin, ev_neg, ev_not, ev_and, ev_or, ev_cmp, ev_chn, ev_isN, ev_notN, ev_ife, ev_tup, ev_lst, ev_idx, ev_slc, ev_call, ev_blt, ev_met, ev_joi, ev_lc, ev_isi, tst_eq, evI_eq, evs_nil, evs_cons, evF_nil, evF_cons, evo_no, evo_so, xs_asg, xs_asgT, xs_par, xs_sub, xs_exp, xs_ret, xs_retN, xs_if, xs_for, xs_whl, xs_brk, xs_rse, xs_cnt, xs_pas, xss_nil, xss_cons, itK_seq, itK_rng1, itK_rng2, itK_rng3, itK_enm, itK_zip, bind_ok, bind_bad, of_ok, fbind_nx, fbind_rt, fbind_bk, fbind_ct, ofO_some, ofS_some, cnt_v, cnt_o, cnt_b, cntS_eq, frz_v, frz_o, frz_b, fr_no, fr_sh, fr_ow, fr_le, fr_lf, fr_lk, putS_fr, mutS_eq, SZ, idxV, slcV, metV, mokV, mok, inS, isiV, joiV, idxR, ixN_nat, ixN_num, binR, addR, mulR, intR, cmpR, D.tr, CM, opd, slcR, bltR, metR, hand, lent, dist, back, cnts, asgT, asgTs, D.eqv, eqvL, D.pl, plL, D.dep, depL, lockO, itemsOf, unlock, freeS, wipeS, restS, D.flat, x4, z1]
  | near d =>
    show _ = Fo.nx ⟨[A, B, .sh (.str (f ++ stW (nearI d))), P, C6, .sh (ch c), .sh _]⟩
    have hx : ev cf (.met .index (.call ne .nil) (.cons (.idx (.var 6) (.cst (.int 1))) .nil)) ⟨[A, B, .sh (.str f), P, C6, .sh (ch c), .sh (Stp.near d).enc]⟩ = .ok (.v (nt (nearI d))) ⟨[A, B, .sh (.str f), P, C6, .sh (ch c), .sh (Stp.near d).enc]⟩ := by
      have hcall := call_o (cf := cf) (f := ne) (es := .nil) (s := ⟨[A, B, .sh (.str f), P, C6, .sh (ch c), .sh (Stp.near d).enc]⟩) (s1 := ⟨[A, B, .sh (.str f), P, C6, .sh (ch c), .sh (Stp.near d).enc]⟩) (rs := []) rfl rfl rfl hn (s2 := ⟨[A, B, .sh (.str f), P, C6, .sh (ch c), .sh (Stp.near d).enc]⟩) rfl
      generalize (Ex.call ne .nil) = E at hcall ⊢
      rcases near_cases hs with rfl | rfl | rfl | rfl | rfl | rfl | rfl <;> (show eMet .index (ev cf E) _ _ = _; unfold eMet; rw [hcall]; rfl)
    have hlt : nearI d < 9 := by unfold nearI; repeat' split <;> try decide
    have xn := idx_go (cf := cf) (a := .cst stTup) (s := ⟨[A, B, .sh (.str f), P, C6, .sh (ch c), .sh (Stp.near d).enc]⟩) rfl hx rfl rfl (ix (nearI d) hlt)
    have ln := stW_len (nearI d)
    unfold abitsI
    generalize stW (nearI d) = w at *
    have z1 : f.length + w.length ≤ 16777216 := by omega
    generalize (Ex.idx (.cst stTup) (.met .index (.call ne .nil) (.cons (.idx (.var 6) (.cst (.int 1))) .nil))) = E at xn ⊢
    generalize (Ex.idx (.cst stTup) (.cst (.int 3))) = E3
    generalize (Ex.idx (.cst stTup) (.cst (.int 4))) = E4
    simp only [Stp.enc] at xn ⊢
    simp [op2_some, ev_cst, ev_var, ev_bin, ev_neg, ev_not, ev_and, ev_or, ev_cmp, ev_chn, ev_isN, ev_notN, ev_ife, ev_tup, ev_lst, ev_idx, ev_slc, ev_call, ev_blt, ev_met, ev_joi, ev_lc, ev_isi, tst_eq, evI_eq, evs_nil, evs_cons, evF_nil, evF_cons, evo_no, evo_so, xs_asg, xs_asgT, xs_par, xs_sub, xs_exp, xs_ret, xs_retN, xs_if, xs_for, xs_whl, xs_brk, xs_rse, xs_cnt, xs_pas, xss_nil, xss_cons, itK_seq, itK_rng1, itK_rng2, itK_rng3, itK_enm, itK_zip, bind_ok, bind_bad, of_ok, fbind_nx, fbind_rt, fbind_bk, fbind_ct, ofO_some, ofS_some, cnt_v, cnt_o, cnt_b, cntS_eq, frz_v, frz_o, frz_b, fr_no, fr_sh, fr_ow, fr_le, fr_lf, fr_lk, putS_fr, mutS_eq, SZ, idxV, slcV, metV, mokV, mok, inS, isiV, joiV, idxR, ixN_nat, ixN_num, binR, addR, mulR, intR, cmpR, D.tr, CM, opd, slcR, bltR, metR, hand, lent, dist, back, cnts, asgT, asgTs, D.eqv, eqvL, D.pl, plL, D.dep, depL, lockO, itemsOf, unlock, freeS, wipeS, restS, D.flat, xn, z1]
  | plain a b =>
    obtain ⟨ha, hb⟩ := hs
    have i3 := ix 3 (by decide)
    have l3 := stW_len 3
    have r1 := hr c a ha
    have r2 := hr (flip1 c) b hb
    have lr1 := runW_len c a
    have lr2 := runW_len (flip1 c) b
    have o1 := ho c
    show _ = Fo.nx ⟨[A, B, .sh (.str (f ++ (stW 3 ++ (runW c a ++ runW (flip1 c) b)))), P, C6, .sh (ch c), .sh _]⟩
    have x3 := idx_go (cf := cf) (a := .cst stTup) (b := .cst (.int 3)) (s := ⟨[A, B, .sh (.str f), P, C6, .sh (ch c), .sh (Stp.plain a b).enc]⟩) rfl rfl rfl rfl i3
    unfold abitsI
    generalize stW 3 = w at *
    generalize runW c a = w1 at *
    generalize runW (flip1 c) b = w2 at *
    have z1 : f.length + w.length ≤ 16777216 := by omega
    have z2 : f.length + w.length + w1.length ≤ 16777216 := by omega
    have z3 : f.length + w.length + w1.length + w2.length ≤ 16777216 := by omega
    have z4 : f.length + (w.length + w1.length) ≤ 16777216 := by omega
    have z6 : f.length + (w.length + w1.length) + w2.length ≤ 16777216 := by omega
    have z5 : f.length + (w.length + (w1.length + w2.length)) ≤ 16777216 := by omega
    generalize (Ex.idx (.cst stTup) (.cst (.int 3))) = E at x3 ⊢
    generalize (Ex.idx (.cst stTup) (.cst (.int 4))) = E4
    simp only [Stp.enc] at x3 ⊢
    simp [op2_some, ev_cst, ev_var, ev_bin, ev_neg, ev_not, ev_and, ev_or, ev_cmp, ev_chn, ev_isN, ev_notN, ev_ife, ev_tup, ev_lst, ev_idx, ev_slc, ev_call, ev_blt, ev_met, ev_joi, ev_lc, ev_isi, tst_eq, evI_eq, evs_nil, evs_cons, evF_nil, evF_cons, evo_no, evo_so, xs_asg, xs_asgT, xs_par, xs_sub, xs_exp, xs_ret, xs_retN, xs_if, xs_for, xs_whl, xs_brk, xs_rse, xs_cnt, xs_pas, xss_nil, xss_cons, itK_seq, itK_rng1, itK_rng2, itK_rng3, itK_enm, itK_zip, bind_ok, bind_bad, of_ok, fbind_nx, fbind_rt, fbind_bk, fbind_ct, ofO_some, ofS_some, cnt_v, cnt_o, cnt_b, cntS_eq, frz_v, frz_o, frz_b, fr_no, fr_sh, fr_ow, fr_le, fr_lf, fr_lk, putS_fr, mutS_eq, SZ, idxV, slcV, metV, mokV, mok, inS, isiV, joiV, idxR, ixN_nat, ixN_num, binR, addR, mulR, intR, cmpR, D.tr, CM, opd, slcR, bltR, metR, hand, lent, dist, back, cnts, asgT, asgTs, D.eqv, eqvL, D.pl, plL, D.dep, depL, lockO, itemsOf, unlock, freeS, wipeS, restS, D.flat, x3, r1, r2, o1, z1, z2, z3, z4, z5, z6]
def abitsB (rb ot ne sf : Nat) : Ss := (.cons (.asg (.var 5) (.var 4))
  (.cons (.asg (.tup (.cons (.var 6) (.cons (.var 3) (.cons (.var 4) .nil)))) (.call sf (.cons (.var 0) (.cons (.var 1) (.cons (.var 3) (.cons (.var 4) .nil))))))
  (.cons (abitsI rb ot ne)
  .nil)))
def abitsBody (rb ot ne sf : Nat) : Ss :=
  (.cons (.asg (.var 2) (.cst (.str [])))
  (.cons (.asg (.var 3) (.neg (.cst (.int 1))))
  (.cons (.asg (.var 4) (.cst (.str [46])))
  (.cons (.whl (.cmp .lt (.var 3) (.blt .len (.cons (.var 1) .nil))) (abitsB rb ot ne sf))
  (.cons (.ret (.var 2))
  .nil)))))
theorem abits_run {cf : Nat → List Slot → Co} {rb ot ne sf : Nat} (hr : RunBits cf rb) (ho : Others cf ot) (hn : Nears cf ne) (hs : Steps cf sf) (above row : List Nat) (hab : above.length = row.length) (h64 : row.length ≤ 64) (hS : Sg above) :
    runDf ⟨2, 7, abitsBody rb ot ne sf⟩ cf [.sh (.str above), .sh (.str row)] = .ok (.v (.str (aboveF above row))) [.sh (.str above), .sh (.str row)] := by
  have z1 : row.length ≤ 16777216 := by omega
  obtain ⟨s', ⟨p, c, x5, x6, f5, f6, rfl⟩, hw⟩ := whl_go (cf := cf) (c := .cmp .lt (.var 3) (.blt .len (.cons (.var 1) .nil))) (b := abitsB rb ot ne sf) (s := ⟨[.sh (.str above), .sh (.str row), .sh (.str []), .sh (.int (-1)), .sh (ch 46), .no, .no]⟩)
    (fun m s => ∃ (p : Int) (q c f : Nat) (acc : List (Stp × Nat)) (x5 x6 : Slot), fr x5 = true ∧ fr x6 = true ∧ p + 1 = (q : Int) ∧ q ≤ row.length + 1 ∧ Sn c ∧ (q = 0 → c = 46) ∧ m = row.length + 1 - q ∧ row.length + 1 - q ≤ f ∧ f + acc.length ≤ 66 ∧ acc ++ stepsG above row f q c = allSteps above row ∧ s = ⟨[.sh (.str above), .sh (.str row), .sh (.str (acc.map tellS).flatten), .sh (.int p), .sh (ch c), x5, x6]⟩)
    (fun s => ∃ (p : Int) (c : Nat) (x5 x6 : Slot), fr x5 = true ∧ fr x6 = true ∧ s = ⟨[.sh (.str above), .sh (.str row), .sh (.str (aboveF above row)), .sh (.int p), .sh (ch c), x5, x6]⟩)
    (fun m s ⟨p, q, c, f, acc, x5, x6, f5, f6, hp, hq, hc, h0, hm, hf, hfl, hacc, e⟩ => by
      subst e
      have hlen : ∀ l : List (Stp × Nat), ((l.map tellS).flatten).length ≤ 34 * l.length := by
        intro l
        induction l with
        | nil => exact Nat.le_refl _
        | cons x l ih =>
          have := tellS_len x
          rw [List.map_cons, List.flatten_cons, List.length_append, List.length_cons]; omega
      have hl := hlen acc
      have ec : tst (ev cf (.cmp .lt (.var 3) (.blt .len (.cons (.var 1) .nil)))) ⟨[.sh (.str above), .sh (.str row), .sh (.str (acc.map tellS).flatten), .sh (.int p), .sh (ch c), x5, x6]⟩ = .ok (decide (p < (row.length : Int))) ⟨[.sh (.str above), .sh (.str row), .sh (.str (acc.map tellS).flatten), .sh (.int p), .sh (ch c), x5, x6]⟩ := by
        simp [op2_some, ev_cst, ev_var, ev_bin, ev_neg, ev_not, ev_and, ev_or, ev_cmp, ev_chn, ev_isN, ev_notN, ev_ife, ev_tup, ev_lst, ev_idx, ev_slc, ev_call, ev_blt, ev_met, ev_joi, ev_lc, ev_isi, tst_eq, evI_eq, evs_nil, evs_cons, evF_nil, evF_cons, evo_no, evo_so, xs_asg, xs_asgT, xs_par, xs_sub, xs_exp, xs_ret, xs_retN, xs_if, xs_for, xs_whl, xs_brk, xs_rse, xs_cnt, xs_pas, xss_nil, xss_cons, itK_seq, itK_rng1, itK_rng2, itK_rng3, itK_enm, itK_zip, bind_ok, bind_bad, of_ok, fbind_nx, fbind_rt, fbind_bk, fbind_ct, ofO_some, ofS_some, cnt_v, cnt_o, cnt_b, cntS_eq, frz_v, frz_o, frz_b, fr_no, fr_sh, fr_ow, fr_le, fr_lf, fr_lk, putS_fr, mutS_eq, SZ, idxV, slcV, metV, mokV, mok, inS, isiV, joiV, idxR, ixN_nat, ixN_num, binR, addR, mulR, intR, cmpR, D.tr, CM, opd, slcR, bltR, metR, hand, lent, dist, back, cnts, asgT, asgTs, D.eqv, eqvL, D.pl, plL, D.dep, depL, lockO, itemsOf, unlock, freeS, wipeS, restS, D.flat, z1]
      by_cases hql : q ≤ row.length
      · obtain ⟨t1, t2, t3⟩ := step_to above row hab q c hc hql
        have hok := step_ok above row hab h64 q c hql
        have hst := hs above row p q c hab (by omega) hS hp hql hc h0
        obtain ⟨f, rfl⟩ : ∃ f', f = f' + 1 := ⟨f - 1, by omega⟩
        unfold stepsG at hacc
        rw [if_pos hql] at hacc
        generalize stepF above row q c = r at *
        obtain ⟨st, p', c'⟩ := r
        dsimp only at t1 t2 t3 hacc hok
        unfold stepD at hst
        dsimp only at hst
        have ht := abitsI_run hr ho hn (.sh (.str above)) (.sh (.str row)) (.sh (nt p')) (.sh (ch c')) (acc.map tellS).flatten (by omega) st c hok
        have hacc2 : ((acc ++ [(st, c)]).map tellS).flatten = (acc.map tellS).flatten ++ tellS (st, c) := by simp
        refine .inr ⟨_, ⟨[.sh (.str above), .sh (.str row), .sh (.str ((acc ++ [(st, c)]).map tellS).flatten), .sh (nt p'), .sh (ch c'), .sh (ch c), .sh st.enc]⟩, row.length + 1 - (p' + 1), by omega, by rw [ec, decide_eq_true (by omega)], .inl ?_, p', p' + 1, c', f, acc ++ [(st, c)], _, _, rfl, rfl, rfl, by omega, t3, by omega, rfl, by omega, by simp; omega, by rw [List.append_assoc]; exact hacc, rfl⟩
        rw [hacc2]
        generalize (acc.map tellS).flatten = F at *
        unfold abitsB
        refine xss_go (s1 := ⟨[.sh (.str above), .sh (.str row), .sh (.str F), .sh (.int p), .sh (ch c), .sh (ch c), x6]⟩) (by simp [op2_some, ev_cst, ev_var, ev_bin, ev_neg, ev_not, ev_and, ev_or, ev_cmp, ev_chn, ev_isN, ev_notN, ev_ife, ev_tup, ev_lst, ev_idx, ev_slc, ev_call, ev_blt, ev_met, ev_joi, ev_lc, ev_isi, tst_eq, evI_eq, evs_nil, evs_cons, evF_nil, evF_cons, evo_no, evo_so, xs_asg, xs_asgT, xs_par, xs_sub, xs_exp, xs_ret, xs_retN, xs_if, xs_for, xs_whl, xs_brk, xs_rse, xs_cnt, xs_pas, xss_nil, xss_cons, itK_seq, itK_rng1, itK_rng2, itK_rng3, itK_enm, itK_zip, bind_ok, bind_bad, of_ok, fbind_nx, fbind_rt, fbind_bk, fbind_ct, ofO_some, ofS_some, cnt_v, cnt_o, cnt_b, cntS_eq, frz_v, frz_o, frz_b, fr_no, fr_sh, fr_ow, fr_le, fr_lf, fr_lk, putS_fr, mutS_eq, SZ, idxV, slcV, metV, mokV, mok, inS, isiV, joiV, idxR, ixN_nat, ixN_num, binR, addR, mulR, intR, cmpR, D.tr, CM, opd, slcR, bltR, metR, hand, lent, dist, back, cnts, asgT, asgTs, D.eqv, eqvL, D.pl, plL, D.dep, depL, lockO, itemsOf, unlock, freeS, wipeS, restS, D.flat, f5]) (xss_go (s1 := ⟨[.sh (.str above), .sh (.str row), .sh (.str F), .sh (nt p'), .sh (ch c'), .sh (ch c), .sh st.enc]⟩) (by simp [op2_some, ev_cst, ev_var, ev_bin, ev_neg, ev_not, ev_and, ev_or, ev_cmp, ev_chn, ev_isN, ev_notN, ev_ife, ev_tup, ev_lst, ev_idx, ev_slc, ev_call, ev_blt, ev_met, ev_joi, ev_lc, ev_isi, tst_eq, evI_eq, evs_nil, evs_cons, evF_nil, evF_cons, evo_no, evo_so, xs_asg, xs_asgT, xs_par, xs_sub, xs_exp, xs_ret, xs_retN, xs_if, xs_for, xs_whl, xs_brk, xs_rse, xs_cnt, xs_pas, xss_nil, xss_cons, itK_seq, itK_rng1, itK_rng2, itK_rng3, itK_enm, itK_zip, bind_ok, bind_bad, of_ok, fbind_nx, fbind_rt, fbind_bk, fbind_ct, ofO_some, ofS_some, cnt_v, cnt_o, cnt_b, cntS_eq, frz_v, frz_o, frz_b, fr_no, fr_sh, fr_ow, fr_le, fr_lf, fr_lk, putS_fr, mutS_eq, SZ, idxV, slcV, metV, mokV, mok, inS, isiV, joiV, idxR, ixN_nat, ixN_num, binR, addR, mulR, intR, cmpR, D.tr, CM, opd, slcR, bltR, metR, hand, lent, dist, back, cnts, asgT, asgTs, D.eqv, eqvL, D.pl, plL, D.dep, depL, lockO, itemsOf, unlock, freeS, wipeS, restS, D.flat, hst, f6]) (xss_go ht rfl))
      · rw [stepsG_end _ _ _ _ _ hql, List.append_nil] at hacc
        subst hacc
        exact .inl ⟨_, by rw [ec, decide_eq_false (by omega)]; rfl, p, c, x5, x6, f5, f6, rfl⟩)
    (m := row.length + 1 - 0) ⟨-1, 0, 46, row.length + 1, [], .no, .no, rfl, rfl, rfl, by omega, .inl rfl, fun _ => rfl, rfl, by omega, by simp; omega, rfl, rfl⟩ (by omega)
  exact run_v (s := ⟨[.sh (.str above), .sh (.str row), .sh (.str (aboveF above row)), .sh (.int p), .sh (ch c), x5, x6]⟩) ⟨rfl, (show 2 ≤ 7 from by decide)⟩ (xss_go (s1 := ⟨[.sh (.str above), .sh (.str row), .sh (.str []), .no, .no, .no, .no]⟩) rfl (xss_go (s1 := ⟨[.sh (.str above), .sh (.str row), .sh (.str []), .sh (.int (-1)), .no, .no, .no]⟩) rfl (xss_go (s1 := ⟨[.sh (.str above), .sh (.str row), .sh (.str []), .sh (.int (-1)), .sh (ch 46), .no, .no]⟩) rfl (xss_go hw rfl)))) rfl rfl
/-! the law's own telling by the row above -/
def labB (lr : Nat) : Ss := (.cons (.iff (.cmp .eq (.idx (.var 5) (.cst (.int 0))) (.cst (.str [112, 97, 115, 115, 101, 100]))) (.cons (.asg (.var 4) (.bin .add (.var 4) (.idx (.var 3) (.cst (.int 4)))))
  .nil) (.cons (.iff (.cmp .eq (.idx (.var 5) (.cst (.int 0))) (.cst (.str [110, 101, 97, 114]))) (.cons (.asg (.var 4) (.bin .add (.var 4) (.idx (.var 3) (.met .index (.lst (.cons (.cst (.int 0)) (.cons (.cst (.int 1)) (.cons (.neg (.cst (.int 1))) (.cons (.cst (.int 9)) (.cons (.cst (.int 9)) (.cons (.cst (.int 2)) (.cons (.neg (.cst (.int 2))) (.cons (.cst (.int 3)) (.cons (.neg (.cst (.int 3))) .nil)))))))))) (.cons (.idx (.var 5) (.cst (.int 1))) .nil)))))
  .nil) (.cons (.asg (.var 7) (flipE 6))
  (.cons (.asg (.var 4) (.bin .add (.bin .add (.bin .add (.var 4) (.idx (.var 3) (.cst (.int 3)))) (.call lr (.cons (.var 0) (.cons (.var 6) (.cons (.idx (.var 5) (.cst (.int 1))) .nil))))) (.call lr (.cons (.var 0) (.cons (.var 7) (.cons (.idx (.var 5) (.cst (.int 2))) .nil))))))
  .nil)))
  .nil))
  .nil)
def labBody (ls lr : Nat) : Ss :=
  (.cons (.asg (.var 3) (.idx (.var 0) (.cst (.int 2))))
  (.cons (.asg (.var 4) (.cst (.str [])))
  (.cons (.fors (.tup (.cons (.var 5) (.cons (.var 6) .nil))) .seq (.cons (.call ls (.cons (.var 1) (.cons (.var 2) .nil))) .nil) (labB lr))
  (.cons (.ret (.var 4))
  .nil))))
def stLst : D := .lst (StW.map .str)
theorem lab_step {cf : Nat → List Slot → Co} {lr : Nat} (hr : LRuns cf lr) (B C : Slot) (f : List Nat) (hf : f.length ≤ 100000) (st : Stp) (c : Nat) (hc : Sn c) (hs : okS st) (x7 : Slot) (f7 : fr x7 = true) :
    ∃ y7, fr y7 = true ∧ xss cf (labB lr) ⟨[.le tabs, B, C, .sh stLst, .sh (.str f), .sh st.enc, .sh (ch c), x7]⟩ = .nx ⟨[.le tabs, B, C, .sh stLst, .sh (.str (f ++ tellS (st, c))), .sh st.enc, .sh (ch c), y7]⟩ := by
  have ix : ∀ (i : Nat), i < 9 → idxR stLst (.int (i : Int)) = some (.str (stW i)) := fun i hi => idx_lstW StW i hi
  generalize hT : tabs = T at *
  have hr' : ∀ c r, Sn c → r ≤ 64 → cf lr [.le T, .sh (ch c), .sh (nt r)] = .ok (.v (.str (runW c r))) [.le T, .sh (ch c), .sh (nt r)] := by rw [← hT]; exact hr
  clear hT
  cases st with
  | passed =>
    have i4 := ix 4 (by decide)
    have l4 := stW_len 4
    refine ⟨x7, f7, ?_⟩
    show _ = Fo.nx ⟨[.le T, B, C, .sh stLst, .sh (.str (f ++ stW 4)), .sh _, .sh (ch c), x7]⟩
    have x4 := idx_go (cf := cf) (a := .var 3) (b := .cst (.int 4)) (s := ⟨[.le T, B, C, .sh stLst, .sh (.str f), .sh Stp.passed.enc, .sh (ch c), x7]⟩) rfl rfl rfl rfl i4
    unfold labB
    generalize stW 4 = w at *
    generalize stLst = SL at *
    have z1 : f.length + w.length ≤ 16777216 := by omega
    generalize (Ex.idx (.var 3) (.cst (.int 4))) = E at x4 ⊢
    simp only [Stp.enc] at x4 ⊢
    simp [op2_some, ev_cst, ev_var, ev_bin, ev_neg, ev_not, ev_and, ev_or, ev_cmp, ev_chn, ev_isN, ev_notN, ev_ife, ev_tup, ev_lst, ev_idx, ev_slc, ev_call, ev_blt, ev_met, ev_joi, ev_lc, ev_isi, tst_eq, evI_eq, evs_nil, evs_cons, evF_nil, evF_cons, evo_no, evo_so, xs_asg, xs_asgT, xs_par, xs_sub, xs_exp, xs_ret, xs_retN, xs_if, xs_for, xs_whl, xs_brk, xs_rse, xs_cnt, xs_pas, xss_nil, xss_cons, itK_seq, itK_rng1, itK_rng2, itK_rng3, itK_enm, itK_zip, bind_ok, bind_bad, of_ok, fbind_nx, fbind_rt, fbind_bk, fbind_ct, ofO_some, ofS_some, cnt_v, cnt_o, cnt_b, cntS_eq, frz_v, frz_o, frz_b, fr_no, fr_sh, fr_ow, fr_le, fr_lf, fr_lk, putS_fr, mutS_eq, SZ, idxV, slcV, metV, mokV, mok, inS, isiV, joiV, idxR, ixN_nat, ixN_num, binR, addR, mulR, intR, cmpR, D.tr, CM, opd, slcR, bltR, metR, hand, lent, dist, back, cnts, asgT, asgTs, D.eqv, eqvL, D.pl, plL, D.dep, depL, lockO, itemsOf, unlock, freeS, wipeS, restS, D.flat, x4, z1]
  | near d =>
    refine ⟨x7, f7, ?_⟩
    show _ = Fo.nx ⟨[.le T, B, C, .sh stLst, .sh (.str (f ++ stW (nearI d))), .sh _, .sh (ch c), x7]⟩
    have hx : ev cf (.met .index (.lst (.cons (.cst (.int 0)) (.cons (.cst (.int 1)) (.cons (.neg (.cst (.int 1))) (.cons (.cst (.int 9)) (.cons (.cst (.int 9)) (.cons (.cst (.int 2)) (.cons (.neg (.cst (.int 2))) (.cons (.cst (.int 3)) (.cons (.neg (.cst (.int 3))) .nil)))))))))) (.cons (.idx (.var 5) (.cst (.int 1))) .nil)) ⟨[.le T, B, C, .sh stLst, .sh (.str f), .sh (Stp.near d).enc, .sh (ch c), x7]⟩ = .ok (.v (nt (nearI d))) ⟨[.le T, B, C, .sh stLst, .sh (.str f), .sh (Stp.near d).enc, .sh (ch c), x7]⟩ := by
      rcases near_cases hs with rfl | rfl | rfl | rfl | rfl | rfl | rfl <;> rfl
    have hlt : nearI d < 9 := by unfold nearI; repeat' split <;> try decide
    have xn := idx_go (cf := cf) (a := .var 3) (s := ⟨[.le T, B, C, .sh stLst, .sh (.str f), .sh (Stp.near d).enc, .sh (ch c), x7]⟩) rfl hx rfl rfl (ix (nearI d) hlt)
    have ln := stW_len (nearI d)
    unfold labB
    generalize stW (nearI d) = w at *
    generalize stLst = SL at *
    have z1 : f.length + w.length ≤ 16777216 := by omega
    generalize (Ex.idx (.var 3) (.met _ _ _)) = E at xn ⊢
    simp only [Stp.enc] at xn ⊢
    simp [op2_some, ev_cst, ev_var, ev_bin, ev_neg, ev_not, ev_and, ev_or, ev_cmp, ev_chn, ev_isN, ev_notN, ev_ife, ev_tup, ev_lst, ev_idx, ev_slc, ev_call, ev_blt, ev_met, ev_joi, ev_lc, ev_isi, tst_eq, evI_eq, evs_nil, evs_cons, evF_nil, evF_cons, evo_no, evo_so, xs_asg, xs_asgT, xs_par, xs_sub, xs_exp, xs_ret, xs_retN, xs_if, xs_for, xs_whl, xs_brk, xs_rse, xs_cnt, xs_pas, xss_nil, xss_cons, itK_seq, itK_rng1, itK_rng2, itK_rng3, itK_enm, itK_zip, bind_ok, bind_bad, of_ok, fbind_nx, fbind_rt, fbind_bk, fbind_ct, ofO_some, ofS_some, cnt_v, cnt_o, cnt_b, cntS_eq, frz_v, frz_o, frz_b, fr_no, fr_sh, fr_ow, fr_le, fr_lf, fr_lk, putS_fr, mutS_eq, SZ, idxV, slcV, metV, mokV, mok, inS, isiV, joiV, idxR, ixN_nat, ixN_num, binR, addR, mulR, intR, cmpR, D.tr, CM, opd, slcR, bltR, metR, hand, lent, dist, back, cnts, asgT, asgTs, D.eqv, eqvL, D.pl, plL, D.dep, depL, lockO, itemsOf, unlock, freeS, wipeS, restS, D.flat, xn, z1]
  | plain a b =>
    obtain ⟨ha, hb⟩ := hs
    have i3 := ix 3 (by decide)
    have l3 := stW_len 3
    have r1 := hr' c a hc ha
    have r2 := hr' (flip1 c) b (flip_sn hc) hb
    have lr1 := runW_len c a
    have lr2 := runW_len (flip1 c) b
    refine ⟨.sh (ch (flip1 c)), rfl, ?_⟩
    show _ = Fo.nx ⟨[.le T, B, C, .sh stLst, .sh (.str (f ++ (stW 3 ++ (runW c a ++ runW (flip1 c) b)))), .sh _, .sh (ch c), _]⟩
    have st7 : xs cf (.asg (.var 7) (flipE 6)) ⟨[.le T, B, C, .sh stLst, .sh (.str f), .sh (Stp.plain a b).enc, .sh (ch c), x7]⟩ = .nx ⟨[.le T, B, C, .sh stLst, .sh (.str f), .sh (Stp.plain a b).enc, .sh (ch c), .sh (ch (flip1 c))]⟩ := by
      generalize stLst = SL at *
      unfold flip1 flipE
      rcases hc with rfl | rfl
      · simp [op2_some, ev_cst, ev_var, ev_bin, ev_neg, ev_not, ev_and, ev_or, ev_cmp, ev_chn, ev_isN, ev_notN, ev_ife, ev_tup, ev_lst, ev_idx, ev_slc, ev_call, ev_blt, ev_met, ev_joi, ev_lc, ev_isi, tst_eq, evI_eq, evs_nil, evs_cons, evF_nil, evF_cons, evo_no, evo_so, xs_asg, xs_asgT, xs_par, xs_sub, xs_exp, xs_ret, xs_retN, xs_if, xs_for, xs_whl, xs_brk, xs_rse, xs_cnt, xs_pas, xss_nil, xss_cons, itK_seq, itK_rng1, itK_rng2, itK_rng3, itK_enm, itK_zip, bind_ok, bind_bad, of_ok, fbind_nx, fbind_rt, fbind_bk, fbind_ct, ofO_some, ofS_some, cnt_v, cnt_o, cnt_b, cntS_eq, frz_v, frz_o, frz_b, fr_no, fr_sh, fr_ow, fr_le, fr_lf, fr_lk, putS_fr, mutS_eq, SZ, idxV, slcV, metV, mokV, mok, inS, isiV, joiV, idxR, ixN_nat, ixN_num, binR, addR, mulR, intR, cmpR, D.tr, CM, opd, slcR, bltR, metR, hand, lent, dist, back, cnts, asgT, asgTs, D.eqv, eqvL, D.pl, plL, D.dep, depL, lockO, itemsOf, unlock, freeS, wipeS, restS, D.flat, f7]
      · simp [op2_some, ev_cst, ev_var, ev_bin, ev_neg, ev_not, ev_and, ev_or, ev_cmp, ev_chn, ev_isN, ev_notN, ev_ife, ev_tup, ev_lst, ev_idx, ev_slc, ev_call, ev_blt, ev_met, ev_joi, ev_lc, ev_isi, tst_eq, evI_eq, evs_nil, evs_cons, evF_nil, evF_cons, evo_no, evo_so, xs_asg, xs_asgT, xs_par, xs_sub, xs_exp, xs_ret, xs_retN, xs_if, xs_for, xs_whl, xs_brk, xs_rse, xs_cnt, xs_pas, xss_nil, xss_cons, itK_seq, itK_rng1, itK_rng2, itK_rng3, itK_enm, itK_zip, bind_ok, bind_bad, of_ok, fbind_nx, fbind_rt, fbind_bk, fbind_ct, ofO_some, ofS_some, cnt_v, cnt_o, cnt_b, cntS_eq, frz_v, frz_o, frz_b, fr_no, fr_sh, fr_ow, fr_le, fr_lf, fr_lk, putS_fr, mutS_eq, SZ, idxV, slcV, metV, mokV, mok, inS, isiV, joiV, idxR, ixN_nat, ixN_num, binR, addR, mulR, intR, cmpR, D.tr, CM, opd, slcR, bltR, metR, hand, lent, dist, back, cnts, asgT, asgTs, D.eqv, eqvL, D.pl, plL, D.dep, depL, lockO, itemsOf, unlock, freeS, wipeS, restS, D.flat, f7]
    have x3 := idx_go (cf := cf) (a := .var 3) (b := .cst (.int 3)) (s := ⟨[.le T, B, C, .sh stLst, .sh (.str f), .sh (Stp.plain a b).enc, .sh (ch c), .sh (ch (flip1 c))]⟩) rfl rfl rfl rfl i3
    unfold labB
    generalize stW 3 = w at *
    generalize runW c a = w1 at *
    generalize runW (flip1 c) b = w2 at *
    generalize stLst = SL at *
    have z1 : f.length + w.length ≤ 16777216 := by omega
    have z2 : f.length + w.length + w1.length ≤ 16777216 := by omega
    have z3 : f.length + w.length + w1.length + w2.length ≤ 16777216 := by omega
    have z4 : f.length + (w.length + w1.length) ≤ 16777216 := by omega
    have z6 : f.length + (w.length + w1.length) + w2.length ≤ 16777216 := by omega
    have z5 : f.length + (w.length + (w1.length + w2.length)) ≤ 16777216 := by omega
    simp only [Stp.enc] at x3 st7 ⊢
    refine xss_go (s1 := ⟨[.le T, B, C, .sh SL, .sh (.str (f ++ (w ++ (w1 ++ w2)))), .sh (.tup [.str [112, 108, 97, 105, 110], nt a, nt b]), .sh (ch c), .sh (ch (flip1 c))]⟩) (if_f (s1 := ⟨[.le T, B, C, .sh SL, .sh (.str f), .sh (.tup [.str [112, 108, 97, 105, 110], nt a, nt b]), .sh (ch c), x7]⟩) (by simp [op2_some, ev_cst, ev_var, ev_bin, ev_neg, ev_not, ev_and, ev_or, ev_cmp, ev_chn, ev_isN, ev_notN, ev_ife, ev_tup, ev_lst, ev_idx, ev_slc, ev_call, ev_blt, ev_met, ev_joi, ev_lc, ev_isi, tst_eq, evI_eq, evs_nil, evs_cons, evF_nil, evF_cons, evo_no, evo_so, xs_asg, xs_asgT, xs_par, xs_sub, xs_exp, xs_ret, xs_retN, xs_if, xs_for, xs_whl, xs_brk, xs_rse, xs_cnt, xs_pas, xss_nil, xss_cons, itK_seq, itK_rng1, itK_rng2, itK_rng3, itK_enm, itK_zip, bind_ok, bind_bad, of_ok, fbind_nx, fbind_rt, fbind_bk, fbind_ct, ofO_some, ofS_some, cnt_v, cnt_o, cnt_b, cntS_eq, frz_v, frz_o, frz_b, fr_no, fr_sh, fr_ow, fr_le, fr_lf, fr_lk, putS_fr, mutS_eq, SZ, idxV, slcV, metV, mokV, mok, inS, isiV, joiV, idxR, ixN_nat, ixN_num, binR, addR, mulR, intR, cmpR, D.tr, CM, opd, slcR, bltR, metR, hand, lent, dist, back, cnts, asgT, asgTs, D.eqv, eqvL, D.pl, plL, D.dep, depL, lockO, itemsOf, unlock, freeS, wipeS, restS, D.flat]) (xss_go (s1 := ⟨[.le T, B, C, .sh SL, .sh (.str (f ++ (w ++ (w1 ++ w2)))), .sh (.tup [.str [112, 108, 97, 105, 110], nt a, nt b]), .sh (ch c), .sh (ch (flip1 c))]⟩) (if_f (s1 := ⟨[.le T, B, C, .sh SL, .sh (.str f), .sh (.tup [.str [112, 108, 97, 105, 110], nt a, nt b]), .sh (ch c), x7]⟩) (by simp [op2_some, ev_cst, ev_var, ev_bin, ev_neg, ev_not, ev_and, ev_or, ev_cmp, ev_chn, ev_isN, ev_notN, ev_ife, ev_tup, ev_lst, ev_idx, ev_slc, ev_call, ev_blt, ev_met, ev_joi, ev_lc, ev_isi, tst_eq, evI_eq, evs_nil, evs_cons, evF_nil, evF_cons, evo_no, evo_so, xs_asg, xs_asgT, xs_par, xs_sub, xs_exp, xs_ret, xs_retN, xs_if, xs_for, xs_whl, xs_brk, xs_rse, xs_cnt, xs_pas, xss_nil, xss_cons, itK_seq, itK_rng1, itK_rng2, itK_rng3, itK_enm, itK_zip, bind_ok, bind_bad, of_ok, fbind_nx, fbind_rt, fbind_bk, fbind_ct, ofO_some, ofS_some, cnt_v, cnt_o, cnt_b, cntS_eq, frz_v, frz_o, frz_b, fr_no, fr_sh, fr_ow, fr_le, fr_lf, fr_lk, putS_fr, mutS_eq, SZ, idxV, slcV, metV, mokV, mok, inS, isiV, joiV, idxR, ixN_nat, ixN_num, binR, addR, mulR, intR, cmpR, D.tr, CM, opd, slcR, bltR, metR, hand, lent, dist, back, cnts, asgT, asgTs, D.eqv, eqvL, D.pl, plL, D.dep, depL, lockO, itemsOf, unlock, freeS, wipeS, restS, D.flat]) (xss_go st7 ?_)) rfl)) rfl
    generalize (Ex.idx (.var 3) (.cst (.int 3))) = E at x3 ⊢
    simp [op2_some, ev_cst, ev_var, ev_bin, ev_neg, ev_not, ev_and, ev_or, ev_cmp, ev_chn, ev_isN, ev_notN, ev_ife, ev_tup, ev_lst, ev_idx, ev_slc, ev_call, ev_blt, ev_met, ev_joi, ev_lc, ev_isi, tst_eq, evI_eq, evs_nil, evs_cons, evF_nil, evF_cons, evo_no, evo_so, xs_asg, xs_asgT, xs_par, xs_sub, xs_exp, xs_ret, xs_retN, xs_if, xs_for, xs_whl, xs_brk, xs_rse, xs_cnt, xs_pas, xss_nil, xss_cons, itK_seq, itK_rng1, itK_rng2, itK_rng3, itK_enm, itK_zip, bind_ok, bind_bad, of_ok, fbind_nx, fbind_rt, fbind_bk, fbind_ct, ofO_some, ofS_some, cnt_v, cnt_o, cnt_b, cntS_eq, frz_v, frz_o, frz_b, fr_no, fr_sh, fr_ow, fr_le, fr_lf, fr_lk, putS_fr, mutS_eq, SZ, idxV, slcV, metV, mokV, mok, inS, isiV, joiV, idxR, ixN_nat, ixN_num, binR, addR, mulR, intR, cmpR, D.tr, CM, opd, slcR, bltR, metR, hand, lent, dist, back, cnts, asgT, asgTs, D.eqv, eqvL, D.pl, plL, D.dep, depL, lockO, itemsOf, unlock, freeS, wipeS, restS, D.flat, x3, r1, r2, z1, z2, z3, z4, z5, z6]
theorem lab_run {cf : Nat → List Slot → Co} {ls lr : Nat} (hr : LRuns cf lr) (above row : List Nat) (hab : above.length = row.length) (h64 : row.length ≤ 64) (hs : cf ls [.sh (.str above), .sh (.str row)] = .ok (.o ((allSteps above row).map e2)) [.sh (.str above), .sh (.str row)]) :
    runDf ⟨3, 8, labBody ls lr⟩ cf [.le tabs, .sh (.str above), .sh (.str row)] = .ok (.v (.str (aboveF above row))) [.le tabs, .sh (.str above), .sh (.str row)] := by
  have hokA : ∀ x ∈ allSteps above row, okS x.1 ∧ Sn x.2 := stepsG_ok above row hab h64 _ 0 46 (.inl rfl)
  have hlA : (allSteps above row).length ≤ 65 := by
    have := stepsG_len above row (row.length + 1) 0 46
    unfold allSteps; omega
  have hlen : ∀ l : List (Stp × Nat), ((l.map tellS).flatten).length ≤ 34 * l.length := by
    intro l
    induction l with
    | nil => exact Nat.le_refl _
    | cons x l ih =>
      have := tellS_len x
      rw [List.map_cons, List.flatten_cons, List.length_append, List.length_cons]; omega
  unfold aboveF
  generalize allSteps above row = L at *
  obtain ⟨s', ⟨x5, x6, x7, f5, f6, f7, rfl⟩, h⟩ := forL_all (t := .tup (.cons (.var 5) (.cons (.var 6) .nil))) (lk := []) (items := L.map e2) (fb := xss cf (labB lr)) (s := ⟨[.le tabs, .sh (.str above), .sh (.str row), .sh stLst, .sh (.str []), .no, .no, .no]⟩)
    (fun j s => ∃ x5 x6 x7, fr x5 = true ∧ fr x6 = true ∧ fr x7 = true ∧ s = ⟨[.le tabs, .sh (.str above), .sh (.str row), .sh stLst, .sh (.str (((L.take j).map tellS).flatten)), x5, x6, x7]⟩) ⟨.no, .no, .no, rfl, rfl, rfl, rfl⟩ (fun j d s hj ⟨x5, x6, x7, f5, f6, f7, e⟩ => by
      subst e
      rw [List.getElem?_map] at hj
      obtain ⟨x, hx1, hx2⟩ := Option.map_eq_some_iff.mp hj
      subst hx2
      obtain ⟨o1, o2⟩ := hokA x (List.mem_of_getElem? hx1)
      have hl := hlen (L.take j)
      have hlt : (L.take j).length ≤ 65 := by rw [List.length_take]; omega
      obtain ⟨y7, g7, hst⟩ := lab_step hr (.sh (.str above)) (.sh (.str row)) ((L.take j).map tellS).flatten (by omega) x.1 x.2 o2 o1 x7 f7
      refine ⟨⟨[.le tabs, .sh (.str above), .sh (.str row), .sh stLst, .sh (.str ((L.take j).map tellS).flatten), .sh x.1.enc, .sh (ch x.2), x7]⟩, _, ?_, .inl hst, .sh x.1.enc, .sh (ch x.2), y7, rfl, rfl, g7, ?_⟩
      · show (putS 5 (.sh x.1.enc) _).bind (fun s1 => (putS 6 (.sh (ch x.2)) s1).bind fun s1 => some s1) = _
        rw [putS_at (x := x5) rfl f5]
        show (putS 6 (.sh (ch x.2)) _).bind (fun s1 => some s1) = _
        rw [putS_at (x := x6) rfl f6]; rfl
      · have : ((L.take (j + 1)).map tellS).flatten = ((L.take j).map tellS).flatten ++ tellS x := by
          rw [List.take_add_one, hx1]; simp
        rw [this])
  rw [List.length_map, List.take_of_length_le (Nat.le_refl _)] at h
  have hc := call_o (cf := cf) (f := ls) (es := .cons (.var 1) (.cons (.var 2) .nil)) (s := ⟨[.le tabs, .sh (.str above), .sh (.str row), .sh stLst, .sh (.str []), .no, .no, .no]⟩) (s1 := ⟨[.le tabs, .sh (.str above), .sh (.str row), .sh stLst, .sh (.str []), .no, .no, .no]⟩) (rs := [.v (.str above), .v (.str row)]) rfl rfl rfl hs (s2 := ⟨[.le tabs, .sh (.str above), .sh (.str row), .sh stLst, .sh (.str []), .no, .no, .no]⟩) rfl
  have hit : evI .seq (evs cf (.cons (.call ls (.cons (.var 1) (.cons (.var 2) .nil))) .nil)) ⟨[.le tabs, .sh (.str above), .sh (.str row), .sh stLst, .sh (.str []), .no, .no, .no]⟩ = .ok (L.map e2, []) ⟨[.le tabs, .sh (.str above), .sh (.str row), .sh stLst, .sh (.str []), .no, .no, .no]⟩ := by
    have := evs_go hc (rfl : evs cf .nil _ = .ok [] _)
    unfold evI
    rw [this]; rfl
  exact run_v (s := ⟨[.le tabs, .sh (.str above), .sh (.str row), .sh stLst, .sh (.str ((L.map tellS).flatten)), x5, x6, x7]⟩) ⟨rfl, (show 3 ≤ 8 from by decide)⟩ (xss_go (s1 := ⟨[.le tabs, .sh (.str above), .sh (.str row), .sh stLst, .no, .no, .no, .no]⟩) rfl (xss_go (s1 := ⟨[.le tabs, .sh (.str above), .sh (.str row), .sh stLst, .sh (.str []), .no, .no, .no]⟩) rfl (xss_go (for_in hit h) rfl))) rfl rfl
end Z

/-! Z: the laws' drawn pages. -/
namespace Z
def okPage (b : Nat) (rows : List (List Nat)) : Prop := ∀ r ∈ rows, r.length = b ∧ Sg r
def pageB (rw : Nat) : Ss := (.cons (.exp (.met .append (.var 5) (.cons (.call rw (.cons (.var 0) (.cons (.var 3) (.cons (.idx (.var 5) (.neg (.cst (.int 1)))) .nil)))) .nil)))
  .nil)
def pageBody (dr rw : Nat) : Ss :=
  (.cons (.asg (.var 3) (.bin .add (.cst (.int 8)) (.call dr (.cons (.var 0) (.cons (.bin .sub (.var 1) (.cst (.int 7))) .nil)))))
  (.cons (.asg (.var 4) (.bin .add (.cst (.int 1)) (.call dr (.cons (.var 0) (.cons (.var 2) .nil)))))
  (.cons (.iff (.cmp .eq (.call dr (.cons (.var 0) (.cons (.cst (.int 8)) .nil))) (.cst (.int 5))) (.cons (.par 3 4 (.var 1) (.var 2))
  .nil) .nil)
  (.cons (.asg (.var 5) (.lst (.cons (.bin .mul (.cst (.str [46])) (.var 3)) .nil)))
  (.cons (.fors (.var 6) .rng1 (.cons (.var 4) .nil) (pageB rw))
  (.cons (.ret (.blt .tuple (.cons (.slc (.var 5) (.so (.cst (.int 1))) .no) .nil)))
  .nil))))))
section
variable {cf : Nat → List Slot → Co} {dr rw : Nat} (hd : Draws cf dr) (hR : Rows cf rw)
include hR
theorem page_step (A1 A2 A4 A6 : Slot) (b : Nat) (hb1 : 8 ≤ b) (hb2 : b ≤ 1000) (g : Int × Int) (L : List (List Nat)) (h1 : 1 ≤ L.length) (h2 : L.length ≤ 1000) (hL : okPage b L) : ∃ (r : List Nat) (g' : Int × Int), r.length = b ∧ Sg r ∧
    xss cf (pageB rw) ⟨[.le (bg g), A1, A2, .sh (nt b), A4, .ow (L.map .str), A6]⟩ = .nx ⟨[.le (bg g'), A1, A2, .sh (nt b), A4, .ow ((L ++ [r]).map .str), A6]⟩ := by
  obtain ⟨la, hla⟩ : ∃ la, L[L.length - 1]? = some la := ⟨_, List.getElem?_eq_getElem (by omega)⟩
  obtain ⟨l1, l2⟩ := hL la (List.mem_of_getElem? hla)
  obtain ⟨r, g', r1, r2, hr⟩ := hR b la g (by omega) hb2 l1 l2
  refine ⟨r, g', r1, r2, ?_⟩
  have hx : ev cf (.idx (.var 5) (.neg (.cst (.int 1)))) ⟨[.le (bg g), A1, A2, .sh (nt b), A4, .ow (L.map .str), A6]⟩ = .ok (.v (.str la)) ⟨[.le (bg g), A1, A2, .sh (nt b), A4, .ow (L.map .str), A6]⟩ := idx_go (rfl : ev cf (.var 5) _ = .ok (.b 5) _) (rfl : ev cf (.neg (.cst (.int 1))) _ = .ok (.v (.int (-1))) _) rfl rfl (by
    show (ixN (L.map D.str).length (-1)).bind (fun k => (L.map D.str)[k]?) = _
    rw [ixN_m1, if_pos (by rw [List.length_map]; omega), List.length_map]
    show (L.map D.str)[L.length - 1]? = _
    rw [List.getElem?_map, hla]; rfl)
  have hc := call_v (cf := cf) (f := rw) (es := .cons (.var 0) (.cons (.var 3) (.cons (.idx (.var 5) (.neg (.cst (.int 1)))) .nil))) (s := ⟨[.le (bg g), A1, A2, .sh (nt b), A4, .ow (L.map .str), A6]⟩) (s1 := ⟨[.le (bg g), A1, A2, .sh (nt b), A4, .ow (L.map .str), A6]⟩) (rs := [.b 0, .v (nt b), .v (.str la)]) (evs_go (r := .b 0) rfl (evs_go (r := .v (nt b)) rfl (evs_go hx rfl))) rfl rfl hr (s2 := ⟨[.le (bg g'), A1, A2, .sh (nt b), A4, .ow (L.map .str), A6]⟩) rfl
  rw [List.map_append]
  have hm : (L.map D.str).length = L.length := List.length_map ..
  generalize L.map D.str = M at *
  have y1 : M.length < 16777216 := by omega
  have y2 : M.length ≤ 16777215 := by omega
  unfold pageB
  generalize (Ex.call rw _) = E at hc ⊢
  generalize bg g = G at *
  generalize bg g' = G' at *
  simp [op2_some, ev_cst, ev_var, ev_bin, ev_neg, ev_not, ev_and, ev_or, ev_cmp, ev_chn, ev_isN, ev_notN, ev_ife, ev_tup, ev_lst, ev_idx, ev_slc, ev_call, ev_blt, ev_met, ev_joi, ev_lc, ev_isi, tst_eq, evI_eq, evs_nil, evs_cons, evF_nil, evF_cons, evo_no, evo_so, xs_asg, xs_asgT, xs_par, xs_sub, xs_exp, xs_ret, xs_retN, xs_if, xs_for, xs_whl, xs_brk, xs_rse, xs_cnt, xs_pas, xss_nil, xss_cons, itK_seq, itK_rng1, itK_rng2, itK_rng3, itK_enm, itK_zip, bind_ok, bind_bad, of_ok, fbind_nx, fbind_rt, fbind_bk, fbind_ct, ofO_some, ofS_some, cnt_v, cnt_o, cnt_b, cntS_eq, frz_v, frz_o, frz_b, fr_no, fr_sh, fr_ow, fr_le, fr_lf, fr_lk, putS_fr, mutS_eq, SZ, idxV, slcV, metV, mokV, mok, inS, isiV, joiV, idxR, ixN_nat, ixN_num, binR, addR, mulR, intR, cmpR, D.tr, CM, opd, slcR, bltR, metR, hand, lent, dist, back, cnts, asgT, asgTs, D.eqv, eqvL, D.pl, plL, D.dep, depL, lockO, itemsOf, unlock, freeS, wipeS, restS, D.flat, hc, y1, y2]
include hd
theorem page_run (mc mr : Nat) (h1 : 8 ≤ mc) (h2 : mc ≤ 1000) (h3 : 1 ≤ mr) (h4 : mr ≤ 900) (g : Int × Int) : ∃ (b : Nat) (rows : List (List Nat)) (g' : Int × Int), 8 ≤ b ∧ b ≤ mc ∧ 1 ≤ rows.length ∧ rows.length ≤ mr ∧ okPage b rows ∧
    runDf ⟨3, 7, pageBody dr rw⟩ cf [.le (bg g), .sh (nt mc), .sh (nt mr)] = .ok (.v (.tup (rows.map .str))) [.le (bg g'), .sh (nt mc), .sh (nt mr)] := by
  have b1 := drawV_lt g (m := (mc : Int) - 7) (by omega)
  have d1 := add_run (a := 8) (draw_le hd (e := .bin .sub (.var 1) (.cst (.int 7))) (m := (mc : Int) - 7) (v := 0) (l := [.le (bg g), .sh (nt mc), .sh (nt mr), .no, .no, .no, .no]) (l' := [.le (bg g), .sh (nt mc), .sh (nt mr), .no, .no, .no, .no]) rfl rfl rfl (by omega) (by omega))
  obtain ⟨m1, hm1⟩ := Int.eq_ofNat_of_zero_le b1.1
  rw [hm1] at d1 b1
  generalize drawS g ((mc : Int) - 7) = g1 at d1
  have b2 := drawV_lt g1 (m := (mr : Int)) (by omega)
  have d2 := add_run (a := 1) (draw_le hd (e := .var 2) (m := (mr : Int)) (v := 0) (g := g1) (l := [.le (bg g1), .sh (nt mc), .sh (nt mr), .sh (nt (8 + m1)), .no, .no, .no]) (l' := [.le (bg g1), .sh (nt mc), .sh (nt mr), .sh (nt (8 + m1)), .no, .no, .no]) rfl rfl rfl (by omega) (by omega))
  obtain ⟨m2, hm2⟩ := Int.eq_ofNat_of_zero_le b2.1
  rw [hm2] at d2 b2
  generalize drawS g1 (mr : Int) = g2 at d2
  have st1 : xs cf (.asg (.var 3) (.bin .add (.cst (.int 8)) (.call dr (.cons (.var 0) (.cons (.bin .sub (.var 1) (.cst (.int 7))) .nil))))) ⟨[.le (bg g), .sh (nt mc), .sh (nt mr), .no, .no, .no, .no]⟩ = .nx ⟨[.le (bg g1), .sh (nt mc), .sh (nt mr), .sh (nt (8 + m1)), .no, .no, .no]⟩ := asg_v d1 (x := .no) rfl rfl
  have st2 : xs cf (.asg (.var 4) (.bin .add (.cst (.int 1)) (.call dr (.cons (.var 0) (.cons (.var 2) .nil))))) ⟨[.le (bg g1), .sh (nt mc), .sh (nt mr), .sh (nt (8 + m1)), .no, .no, .no]⟩ = .nx ⟨[.le (bg g2), .sh (nt mc), .sh (nt mr), .sh (nt (8 + m1)), .sh (nt (1 + m2)), .no, .no]⟩ := asg_v d2 (x := .no) rfl rfl
  obtain ⟨b, n, g3, q1, q2, q3, q4, st3⟩ : ∃ (b n : Nat) (g3 : Int × Int), 8 ≤ b ∧ b ≤ mc ∧ 1 ≤ n ∧ n ≤ mr ∧ xs cf (.iff (.cmp .eq (.call dr (.cons (.var 0) (.cons (.cst (.int 8)) .nil))) (.cst (.int 5))) (.cons (.par 3 4 (.var 1) (.var 2)) .nil) .nil) ⟨[.le (bg g2), .sh (nt mc), .sh (nt mr), .sh (nt (8 + m1)), .sh (nt (1 + m2)), .no, .no]⟩ = .nx ⟨[.le (bg g3), .sh (nt mc), .sh (nt mr), .sh (nt b), .sh (nt n), .no, .no]⟩ := by
    have d3 := draw_le hd (e := .cst (.int 8)) (m := 8) (v := 0) (g := g2) (l := [.le (bg g2), .sh (nt mc), .sh (nt mr), .sh (nt (8 + m1)), .sh (nt (1 + m2)), .no, .no]) (l' := [.le (bg g2), .sh (nt mc), .sh (nt mr), .sh (nt (8 + m1)), .sh (nt (1 + m2)), .no, .no]) rfl rfl rfl (by decide) (by decide)
    have d3 : ev cf (.call dr (.cons (.var 0) (.cons (.cst (.int 8)) .nil))) ⟨[.le (bg g2), .sh (nt mc), .sh (nt mr), .sh (nt (8 + m1)), .sh (nt (1 + m2)), .no, .no]⟩ = .ok (.v (.int (drawV g2 8))) ⟨[.le (bg (drawS g2 8)), .sh (nt mc), .sh (nt mr), .sh (nt (8 + m1)), .sh (nt (1 + m2)), .no, .no]⟩ := d3
    have ec : ∀ t, (drawV g2 8 == 5) = t → tst (ev cf (.cmp .eq (.call dr (.cons (.var 0) (.cons (.cst (.int 8)) .nil))) (.cst (.int 5)))) ⟨[.le (bg g2), .sh (nt mc), .sh (nt mr), .sh (nt (8 + m1)), .sh (nt (1 + m2)), .no, .no]⟩ = .ok t ⟨[.le (bg (drawS g2 8)), .sh (nt mc), .sh (nt mr), .sh (nt (8 + m1)), .sh (nt (1 + m2)), .no, .no]⟩ := by
      intro t ht
      generalize (Ex.call dr (.cons (.var 0) (.cons (.cst (.int 8)) .nil))) = E at d3 ⊢
      generalize bg g2 = G at *
      generalize bg (drawS g2 8) = G' at *
      subst ht
      simp [op2_some, ev_cst, ev_var, ev_bin, ev_neg, ev_not, ev_and, ev_or, ev_cmp, ev_chn, ev_isN, ev_notN, ev_ife, ev_tup, ev_lst, ev_idx, ev_slc, ev_call, ev_blt, ev_met, ev_joi, ev_lc, ev_isi, tst_eq, evI_eq, evs_nil, evs_cons, evF_nil, evF_cons, evo_no, evo_so, xs_asg, xs_asgT, xs_par, xs_sub, xs_exp, xs_ret, xs_retN, xs_if, xs_for, xs_whl, xs_brk, xs_rse, xs_cnt, xs_pas, xss_nil, xss_cons, itK_seq, itK_rng1, itK_rng2, itK_rng3, itK_enm, itK_zip, bind_ok, bind_bad, of_ok, fbind_nx, fbind_rt, fbind_bk, fbind_ct, ofO_some, ofS_some, cnt_v, cnt_o, cnt_b, cntS_eq, frz_v, frz_o, frz_b, fr_no, fr_sh, fr_ow, fr_le, fr_lf, fr_lk, putS_fr, mutS_eq, SZ, idxV, slcV, metV, mokV, mok, inS, isiV, joiV, idxR, ixN_nat, ixN_num, binR, addR, mulR, intR, cmpR, D.tr, CM, opd, slcR, bltR, metR, hand, lent, dist, back, cnts, asgT, asgTs, D.eqv, eqvL, D.pl, plL, D.dep, depL, lockO, itemsOf, unlock, freeS, wipeS, restS, D.flat, d3]
    by_cases h5 : drawV g2 8 = 5
    · exact ⟨mc, mr, drawS g2 8, h1, Nat.le_refl _, h3, Nat.le_refl _, if_t (ec true (by rw [h5]; rfl)) rfl⟩
    · exact ⟨8 + m1, 1 + m2, drawS g2 8, by omega, by omega, by omega, by omega, if_f (ec false (by simpa using h5)) rfl⟩
  have z1 : b ≤ 16777216 := by omega
  have k1 : okI (b : Int) = true := okI_nat (by omega)
  have st4 : xs cf (.asg (.var 5) (.lst (.cons (.bin .mul (.cst (.str [46])) (.var 3)) .nil))) ⟨[.le (bg g3), .sh (nt mc), .sh (nt mr), .sh (nt b), .sh (nt n), .no, .no]⟩ = .nx ⟨[.le (bg g3), .sh (nt mc), .sh (nt mr), .sh (nt b), .sh (nt n), .ow [.str (List.replicate b 46)], .no]⟩ := by
    generalize bg g3 = G
    simp [op2_some, ev_cst, ev_var, ev_bin, ev_neg, ev_not, ev_and, ev_or, ev_cmp, ev_chn, ev_isN, ev_notN, ev_ife, ev_tup, ev_lst, ev_idx, ev_slc, ev_call, ev_blt, ev_met, ev_joi, ev_lc, ev_isi, tst_eq, evI_eq, evs_nil, evs_cons, evF_nil, evF_cons, evo_no, evo_so, xs_asg, xs_asgT, xs_par, xs_sub, xs_exp, xs_ret, xs_retN, xs_if, xs_for, xs_whl, xs_brk, xs_rse, xs_cnt, xs_pas, xss_nil, xss_cons, itK_seq, itK_rng1, itK_rng2, itK_rng3, itK_enm, itK_zip, bind_ok, bind_bad, of_ok, fbind_nx, fbind_rt, fbind_bk, fbind_ct, ofO_some, ofS_some, cnt_v, cnt_o, cnt_b, cntS_eq, frz_v, frz_o, frz_b, fr_no, fr_sh, fr_ow, fr_le, fr_lf, fr_lk, putS_fr, mutS_eq, SZ, idxV, slcV, metV, mokV, mok, inS, isiV, joiV, idxR, ixN_nat, ixN_num, binR, addR, mulR, intR, cmpR, D.tr, CM, opd, slcR, bltR, metR, hand, lent, dist, back, cnts, asgT, asgTs, D.eqv, eqvL, D.pl, plL, D.dep, depL, lockO, itemsOf, unlock, freeS, wipeS, restS, D.flat, z1, k1, rep_one]
  obtain ⟨s', ⟨rows, g4, x6, f6, l4, o4, rfl⟩, h⟩ := forL_rng (t := .var 6) (lk := []) (n := n) (fb := xss cf (pageB rw)) (s := ⟨[.le (bg g3), .sh (nt mc), .sh (nt mr), .sh (nt b), .sh (nt n), .ow [.str (List.replicate b 46)], .no]⟩)
    (fun k s => ∃ (rows : List (List Nat)) (g : Int × Int) (x6 : Slot), fr x6 = true ∧ rows.length = k ∧ okPage b rows ∧ s = ⟨[.le (bg g), .sh (nt mc), .sh (nt mr), .sh (nt b), .sh (nt n), .ow ((List.replicate b 46 :: rows).map .str), x6]⟩) ⟨[], g3, .no, rfl, rfl, (fun r h => by cases h), rfl⟩ (fun k s hk ⟨rows, g, x6, f6, l4, o4, e⟩ => by
      subst e
      obtain ⟨r, g', r1, r2, hst⟩ := page_step hR (.sh (nt mc)) (.sh (nt mr)) (.sh (nt n)) (.sh (nt k)) b q1 (by omega) g (List.replicate b 46 :: rows) (by simp) (by simp; omega) (fun r hr => by
        rcases List.mem_cons.mp hr with rfl | hr
        · exact ⟨List.length_replicate .., Sg.rep b (.inl rfl)⟩
        · exact o4 r hr)
      exact ⟨_, _, putS_at (x := x6) rfl f6, .inl hst, rows ++ [r], g', .sh (nt k), rfl, by simp [l4], fun r' hr' => (List.mem_append.mp hr').elim (o4 r') (fun h => by rw [List.mem_singleton.mp h]; exact ⟨r1, r2⟩), rfl⟩)
  refine ⟨b, rows, g4, q1, q2, by omega, by omega, o4, run_v (s := ⟨[.le (bg g4), .sh (nt mc), .sh (nt mr), .sh (nt b), .sh (nt n), .ow ((List.replicate b 46 :: rows).map .str), x6]⟩) ⟨rfl, (show 3 ≤ 7 from by decide)⟩ (xss_go st1 (xss_go st2 (xss_go st3 (xss_go st4 (xss_go (for_go (rng_go (n := n) rfl (by omega)) h) ?_))))) rfl rfl⟩
  have e : cut ((List.replicate b 46 :: rows).map D.str) (some 1) none = rows.map D.str := cut_from _ 1
  generalize (List.replicate b 46 :: rows).map D.str = M at *
  generalize bg g4 = G at *
  simp [op2_some, ev_cst, ev_var, ev_bin, ev_neg, ev_not, ev_and, ev_or, ev_cmp, ev_chn, ev_isN, ev_notN, ev_ife, ev_tup, ev_lst, ev_idx, ev_slc, ev_call, ev_blt, ev_met, ev_joi, ev_lc, ev_isi, tst_eq, evI_eq, evs_nil, evs_cons, evF_nil, evF_cons, evo_no, evo_so, xs_asg, xs_asgT, xs_par, xs_sub, xs_exp, xs_ret, xs_retN, xs_if, xs_for, xs_whl, xs_brk, xs_rse, xs_cnt, xs_pas, xss_nil, xss_cons, itK_seq, itK_rng1, itK_rng2, itK_rng3, itK_enm, itK_zip, bind_ok, bind_bad, of_ok, fbind_nx, fbind_rt, fbind_bk, fbind_ct, ofO_some, ofS_some, cnt_v, cnt_o, cnt_b, cntS_eq, frz_v, frz_o, frz_b, fr_no, fr_sh, fr_ow, fr_le, fr_lf, fr_lk, putS_fr, mutS_eq, SZ, idxV, slcV, metV, mokV, mok, inS, isiV, joiV, idxR, ixN_nat, ixN_num, binR, addR, mulR, intR, cmpR, D.tr, CM, opd, slcR, bltR, metR, hand, lent, dist, back, cnts, asgT, asgTs, D.eqv, eqvL, D.pl, plL, D.dep, depL, lockO, itemsOf, unlock, freeS, wipeS, restS, D.flat, e]
end
/-! a page's rows -/
theorem idx_tupP (W : List (List Nat)) (i : Nat) (h : i < W.length) : idxR (.tup (W.map .str)) (.int (i : Int)) = some (.str (W.getD i [])) := idx_tupW W i h
theorem okPage.at {b : Nat} {rows : List (List Nat)} (h : okPage b rows) (i : Nat) (hi : i < rows.length) : (rows.getD i []).length = b ∧ Sg (rows.getD i []) := by
  rw [List.getD_eq_getElem?_getD, List.getElem?_eq_getElem hi]; exact h _ (List.getElem_mem hi)
/-! the bits of a page -/
def MARK : List Nat := [48, 48, 48, 48, 48, 48, 48, 48, 48, 48, 48, 49]
def tagF (rows : List (List Nat)) (e i : Nat) : List Nat := if i % e = 0 then 49 :: plainF (rows.getD i []) else 48 :: aboveF (rows.getD (i - 1) []) (rows.getD i [])
def rowF (rows : List (List Nat)) (e le i : Nat) : List Nat := (MARK ++ tagF rows e i) ++ List.replicate (le - (MARK ++ tagF rows e i).length) 48
def LASTS : List Nat := rep 6 (MARK ++ [49])
def bodyF (rows : List (List Nat)) (e le n : Nat) : List Nat := ((List.range n).map (rowF rows e le)).flatten
def pageF (rows : List (List Nat)) (e le : Nat) : List Nat := bodyF rows e le rows.length ++ LASTS
theorem aboveF_len (above row : List Nat) : (aboveF above row).length ≤ 34 * (row.length + 1) := by
  have hlen : ∀ l : List (Stp × Nat), ((l.map tellS).flatten).length ≤ 34 * l.length := by
    intro l
    induction l with
    | nil => exact Nat.le_refl _
    | cons x l ih =>
      have := tellS_len x
      rw [List.map_cons, List.flatten_cons, List.length_append, List.length_cons]; omega
  have := hlen (allSteps above row)
  have := stepsG_len above row (row.length + 1) 0 46
  unfold aboveF allSteps at *; omega
theorem tagF_len {b : Nat} {rows : List (List Nat)} (ok : okPage b rows) (hb : b ≤ 64) (e i : Nat) (hi : i < rows.length) : (tagF rows e i).length ≤ 2300 := by
  have h1 := plainF_len (rows.getD i [])
  have h2 := aboveF_len (rows.getD (i - 1) []) (rows.getD i [])
  have h3 := (ok.at i hi).1
  unfold tagF
  split <;> rw [List.length_cons] <;> omega
theorem rowF_len {b : Nat} {rows : List (List Nat)} (ok : okPage b rows) (hb : b ≤ 64) (e le i : Nat) (hle : le ≤ 1000) (hi : i < rows.length) : (rowF rows e le i).length ≤ 4000 := by
  have h1 := tagF_len ok hb e i hi
  unfold rowF
  rw [List.length_append, List.length_append, List.length_replicate]
  show 12 + _ + _ ≤ 4000
  omega
theorem bodyF_succ (rows : List (List Nat)) (e le n : Nat) : bodyF rows e le (n + 1) = bodyF rows e le n ++ rowF rows e le n := by
  unfold bodyF
  rw [List.range_succ]; simp
theorem bodyF_len {b : Nat} {rows : List (List Nat)} (ok : okPage b rows) (hb : b ≤ 64) (e le : Nat) (hle : le ≤ 1000) : ∀ n, n ≤ rows.length → (bodyF rows e le n).length ≤ 4000 * n
  | 0, _ => Nat.le_refl _
  | n + 1, h => by
    have := bodyF_len ok hb e le hle n (by omega)
    have := rowF_len ok hb e le n hle (by omega)
    rw [bodyF_succ, List.length_append]; omega
def Plains (cf : Nat → List Slot → Co) (pl : Nat) : Prop := ∀ row, row.length ≤ 64 → cf pl [.sh (.str row)] = .ok (.v (.str (plainF row))) [.sh (.str row)]
def Aboves (cf : Nat → List Slot → Co) (ab : Nat) : Prop := ∀ above row, above.length = row.length → row.length ≤ 64 → Sg above → cf ab [.sh (.str above), .sh (.str row)] = .ok (.v (.str (aboveF above row))) [.sh (.str above), .sh (.str row)]
abbrev pgD (rows : List (List Nat)) : D := .tup (rows.map .str)
def tagBody (pl ab : Nat) : Ss :=
  (.cons (.iff (.cmp .eq (.bin .mod (.var 1) (.var 2)) (.cst (.int 0))) (.cons (.ret (.bin .add (.cst (.str [49])) (.call pl (.cons (.idx (.var 0) (.var 1)) .nil))))
  .nil) .nil)
  (.cons (.ret (.bin .add (.cst (.str [48])) (.call ab (.cons (.idx (.var 0) (.bin .sub (.var 1) (.cst (.int 1)))) (.cons (.idx (.var 0) (.var 1)) .nil)))))
  .nil))
theorem tag_run {cf : Nat → List Slot → Co} {pl ab : Nat} (hp : Plains cf pl) (ha : Aboves cf ab) {b : Nat} {rows : List (List Nat)} (ok : okPage b rows) (hb : b ≤ 64) (e i : Nat) (he : 1 ≤ e) (hi : i < rows.length) :
    runDf ⟨3, 3, tagBody pl ab⟩ cf [.sh (pgD rows), .sh (nt i), .sh (nt e)] = .ok (.v (.str (tagF rows e i))) [.sh (pgD rows), .sh (nt i), .sh (nt e)] := by
  have hx := fun (s : S) (hs : s = ⟨[.sh (pgD rows), .sh (nt i), .sh (nt e)]⟩) => idx_go (cf := cf) (a := .var 0) (b := .var 1) (s := s) (s1 := s) (s2 := s) (ra := .v (pgD rows)) (rb := .v (nt i)) (by rw [hs]; rfl) (by rw [hs]; rfl) rfl rfl (idx_tupP rows i hi)
  have hx := hx _ rfl
  obtain ⟨l1, s1⟩ := ok.at i hi
  have ft : ((i : Int)).fmod (e : Int) = ((i % e : Nat) : Int) := by rw [Int.fmod_eq_emod_of_nonneg _ (by omega)]; rfl
  have e0 : ¬ e = 0 := by omega
  have hf : tst (ev cf (.cmp .eq (.bin .mod (.var 1) (.var 2)) (.cst (.int 0)))) ⟨[.sh (pgD rows), .sh (nt i), .sh (nt e)]⟩ = .ok (decide (i % e = 0)) ⟨[.sh (pgD rows), .sh (nt i), .sh (nt e)]⟩ := by
    generalize pgD rows = P at *
    obtain ⟨m, hm⟩ : ∃ m, m = i % e := ⟨_, rfl⟩
    rw [← hm] at ft ⊢
    have : ((m : Int) == 0) = decide (m = 0) := by rw [Bool.beq_eq_decide_eq]; exact decide_eq_decide.mpr (by omega)
    simp [op2_some, ev_cst, ev_var, ev_bin, ev_neg, ev_not, ev_and, ev_or, ev_cmp, ev_chn, ev_isN, ev_notN, ev_ife, ev_tup, ev_lst, ev_idx, ev_slc, ev_call, ev_blt, ev_met, ev_joi, ev_lc, ev_isi, tst_eq, evI_eq, evs_nil, evs_cons, evF_nil, evF_cons, evo_no, evo_so, xs_asg, xs_asgT, xs_par, xs_sub, xs_exp, xs_ret, xs_retN, xs_if, xs_for, xs_whl, xs_brk, xs_rse, xs_cnt, xs_pas, xss_nil, xss_cons, itK_seq, itK_rng1, itK_rng2, itK_rng3, itK_enm, itK_zip, bind_ok, bind_bad, of_ok, fbind_nx, fbind_rt, fbind_bk, fbind_ct, ofO_some, ofS_some, cnt_v, cnt_o, cnt_b, cntS_eq, frz_v, frz_o, frz_b, fr_no, fr_sh, fr_ow, fr_le, fr_lf, fr_lk, putS_fr, mutS_eq, SZ, idxV, slcV, metV, mokV, mok, inS, isiV, joiV, idxR, ixN_nat, ixN_num, binR, addR, mulR, intR, cmpR, D.tr, CM, opd, slcR, bltR, metR, hand, lent, dist, back, cnts, asgT, asgTs, D.eqv, eqvL, D.pl, plL, D.dep, depL, lockO, itemsOf, unlock, freeS, wipeS, restS, D.flat, ft, e0, this]
  by_cases h : i % e = 0
  · have hc := hp (rows.getD i []) (by omega)
    have hl := plainF_len (rows.getD i [])
    rw [decide_eq_true h] at hf
    unfold tagF
    rw [if_pos h]
    refine run_v (s := ⟨[.sh (pgD rows), .sh (nt i), .sh (nt e)]⟩) ⟨rfl, (show 3 ≤ 3 from by decide)⟩ (rt_go (if_t hf ?_)) rfl rfl
    generalize rows.getD i [] = r at *
    generalize plainF r = w at *
    generalize pgD rows = P at *
    generalize (Ex.idx (.var 0) (.var 1)) = E at hx ⊢
    have y1 : w.length ≤ 16777215 := by omega
    have y2 : 1 + w.length ≤ 16777216 := by omega
    simp [op2_some, ev_cst, ev_var, ev_bin, ev_neg, ev_not, ev_and, ev_or, ev_cmp, ev_chn, ev_isN, ev_notN, ev_ife, ev_tup, ev_lst, ev_idx, ev_slc, ev_call, ev_blt, ev_met, ev_joi, ev_lc, ev_isi, tst_eq, evI_eq, evs_nil, evs_cons, evF_nil, evF_cons, evo_no, evo_so, xs_asg, xs_asgT, xs_par, xs_sub, xs_exp, xs_ret, xs_retN, xs_if, xs_for, xs_whl, xs_brk, xs_rse, xs_cnt, xs_pas, xss_nil, xss_cons, itK_seq, itK_rng1, itK_rng2, itK_rng3, itK_enm, itK_zip, bind_ok, bind_bad, of_ok, fbind_nx, fbind_rt, fbind_bk, fbind_ct, ofO_some, ofS_some, cnt_v, cnt_o, cnt_b, cntS_eq, frz_v, frz_o, frz_b, fr_no, fr_sh, fr_ow, fr_le, fr_lf, fr_lk, putS_fr, mutS_eq, SZ, idxV, slcV, metV, mokV, mok, inS, isiV, joiV, idxR, ixN_nat, ixN_num, binR, addR, mulR, intR, cmpR, D.tr, CM, opd, slcR, bltR, metR, hand, lent, dist, back, cnts, asgT, asgTs, D.eqv, eqvL, D.pl, plL, D.dep, depL, lockO, itemsOf, unlock, freeS, wipeS, restS, D.flat, hx, hc, y1, y2]
  · have i0 : 0 < i := by
      rcases Nat.eq_zero_or_pos i with h0 | h0
      · exfalso; apply h; rw [h0]; exact Nat.zero_mod e
      · exact h0
    obtain ⟨l2, s2⟩ := ok.at (i - 1) (by omega)
    have hc := ha (rows.getD (i - 1) []) (rows.getD i []) (by omega) (by omega) s2
    have hl := aboveF_len (rows.getD (i - 1) []) (rows.getD i [])
    have hm : (i : Int) - 1 = ((i - 1 : Nat) : Int) := by omega
    have hx2 := fun (s : S) (hs : s = ⟨[.sh (pgD rows), .sh (nt i), .sh (nt e)]⟩) => idx_go (cf := cf) (a := .var 0) (b := .bin .sub (.var 1) (.cst (.int 1))) (s := s) (s1 := s) (s2 := s) (ra := .v (pgD rows)) (rb := .v (nt (i - 1))) (by rw [hs]; rfl) (by rw [hs]; show _ = Ro.ok (Rv.v (D.int ((i - 1 : Nat) : Int))) _; rw [← hm]; rfl) rfl rfl (idx_tupP rows (i - 1) (by omega))
    have hx2 := hx2 _ rfl
    rw [decide_eq_false h] at hf
    unfold tagF
    rw [if_neg h]
    refine run_v (s := ⟨[.sh (pgD rows), .sh (nt i), .sh (nt e)]⟩) ⟨rfl, (show 3 ≤ 3 from by decide)⟩ (xss_go (if_f hf rfl) ?_) rfl rfl
    generalize rows.getD (i - 1) [] = r0 at *
    generalize rows.getD i [] = r at *
    generalize aboveF r0 r = w at *
    generalize pgD rows = P at *
    generalize (Ex.idx (.var 0) (.var 1)) = E at hx ⊢
    generalize (Ex.idx (.var 0) (.bin .sub (.var 1) (.cst (.int 1)))) = E2 at hx2 ⊢
    have y1 : w.length ≤ 16777215 := by omega
    have y2 : 1 + w.length ≤ 16777216 := by omega
    simp [op2_some, ev_cst, ev_var, ev_bin, ev_neg, ev_not, ev_and, ev_or, ev_cmp, ev_chn, ev_isN, ev_notN, ev_ife, ev_tup, ev_lst, ev_idx, ev_slc, ev_call, ev_blt, ev_met, ev_joi, ev_lc, ev_isi, tst_eq, evI_eq, evs_nil, evs_cons, evF_nil, evF_cons, evo_no, evo_so, xs_asg, xs_asgT, xs_par, xs_sub, xs_exp, xs_ret, xs_retN, xs_if, xs_for, xs_whl, xs_brk, xs_rse, xs_cnt, xs_pas, xss_nil, xss_cons, itK_seq, itK_rng1, itK_rng2, itK_rng3, itK_enm, itK_zip, bind_ok, bind_bad, of_ok, fbind_nx, fbind_rt, fbind_bk, fbind_ct, ofO_some, ofS_some, cnt_v, cnt_o, cnt_b, cntS_eq, frz_v, frz_o, frz_b, fr_no, fr_sh, fr_ow, fr_le, fr_lf, fr_lk, putS_fr, mutS_eq, SZ, idxV, slcV, metV, mokV, mok, inS, isiV, joiV, idxR, ixN_nat, ixN_num, binR, addR, mulR, intR, cmpR, D.tr, CM, opd, slcR, bltR, metR, hand, lent, dist, back, cnts, asgT, asgTs, D.eqv, eqvL, D.pl, plL, D.dep, depL, lockO, itemsOf, unlock, freeS, wipeS, restS, D.flat, hx, hx2, hc, y1, y2]
def Tags (cf : Nat → List Slot → Co) (tg : Nat) : Prop := ∀ (b : Nat) (rows : List (List Nat)) (e i : Nat), okPage b rows → b ≤ 64 → 1 ≤ e → i < rows.length → cf tg [.sh (pgD rows), .sh (nt i), .sh (nt e)] = .ok (.v (.str (tagF rows e i))) [.sh (pgD rows), .sh (nt i), .sh (nt e)]
def pbB (tg : Nat) : Ss := (.cons (.asg (.var 5) (.bin .add (.cst (.str MARK)) (.call tg (.cons (.var 0) (.cons (.var 4) (.cons (.var 1) .nil))))))
  (.cons (.asg (.var 3) (.bin .add (.bin .add (.var 3) (.var 5)) (.bin .mul (.cst (.str [48])) (.bin .sub (.var 2) (.blt .len (.cons (.var 5) .nil))))))
  .nil))
def pbBody (tg : Nat) : Ss :=
  (.cons (.asg (.var 3) (.cst (.str [])))
  (.cons (.fors (.var 4) .rng1 (.cons (.blt .len (.cons (.var 0) .nil)) .nil) (pbB tg))
  (.cons (.ret (.bin .add (.var 3) (.bin .mul (.bin .add (.cst (.str MARK)) (.cst (.str [49]))) (.cst (.int 6)))))
  .nil)))
theorem okI_int {k : Int} (h : k.natAbs ≤ 1000000) : okI k = true := by
  unfold okI
  rw [decide_eq_true_eq]; omega
theorem pb_step {cf : Nat → List Slot → Co} {tg : Nat} (ht : Tags cf tg) {b : Nat} {rows : List (List Nat)} (ok : okPage b rows) (hb : b ≤ 64) (e le i : Nat) (he : 1 ≤ e) (hle : le ≤ 1000) (hi : i < rows.length) (f : List Nat) (hf : f.length ≤ 1000000) (x5 : Slot) (f5 : fr x5 = true) :
    ∃ y5, fr y5 = true ∧ xss cf (pbB tg) ⟨[.sh (pgD rows), .sh (nt e), .sh (nt le), .sh (.str f), .sh (nt i), x5]⟩ = .nx ⟨[.sh (pgD rows), .sh (nt e), .sh (nt le), .sh (.str (f ++ rowF rows e le i)), .sh (nt i), y5]⟩ := by
  have h1 := ht b rows e i ok hb he hi
  have hl := tagF_len ok hb e i hi
  refine ⟨.sh (.str (MARK ++ tagF rows e i)), rfl, ?_⟩
  unfold rowF
  generalize tagF rows e i = t at *
  generalize pgD rows = P at *
  have lm : MARK.length = 12 := rfl
  unfold pbB
  generalize MARK = M at *
  have y1 : M.length + t.length ≤ 16777216 := by omega
  have st1 : xs cf (.asg (.var 5) (.bin .add (.cst (.str M)) (.call tg (.cons (.var 0) (.cons (.var 4) (.cons (.var 1) .nil)))))) ⟨[.sh P, .sh (nt e), .sh (nt le), .sh (.str f), .sh (nt i), x5]⟩ = .nx ⟨[.sh P, .sh (nt e), .sh (nt le), .sh (.str f), .sh (nt i), .sh (.str (M ++ t))]⟩ := by
    simp [op2_some, ev_cst, ev_var, ev_bin, ev_neg, ev_not, ev_and, ev_or, ev_cmp, ev_chn, ev_isN, ev_notN, ev_ife, ev_tup, ev_lst, ev_idx, ev_slc, ev_call, ev_blt, ev_met, ev_joi, ev_lc, ev_isi, tst_eq, evI_eq, evs_nil, evs_cons, evF_nil, evF_cons, evo_no, evo_so, xs_asg, xs_asgT, xs_par, xs_sub, xs_exp, xs_ret, xs_retN, xs_if, xs_for, xs_whl, xs_brk, xs_rse, xs_cnt, xs_pas, xss_nil, xss_cons, itK_seq, itK_rng1, itK_rng2, itK_rng3, itK_enm, itK_zip, bind_ok, bind_bad, of_ok, fbind_nx, fbind_rt, fbind_bk, fbind_ct, ofO_some, ofS_some, cnt_v, cnt_o, cnt_b, cntS_eq, frz_v, frz_o, frz_b, fr_no, fr_sh, fr_ow, fr_le, fr_lf, fr_lk, putS_fr, mutS_eq, SZ, idxV, slcV, metV, mokV, mok, inS, isiV, joiV, idxR, ixN_nat, ixN_num, binR, addR, mulR, intR, cmpR, D.tr, CM, opd, slcR, bltR, metR, hand, lent, dist, back, cnts, asgT, asgTs, D.eqv, eqvL, D.pl, plL, D.dep, depL, lockO, itemsOf, unlock, freeS, wipeS, restS, D.flat, h1, y1, f5]
  have lw : (M ++ t).length ≤ 2400 := by rw [List.length_append]; omega
  generalize hW : M ++ t = W at *
  have y2 : W.length ≤ 16777216 := by omega
  have k1 : okI ((le : Int) - (W.length : Int)) = true := okI_int (by omega)
  have y3 : ((le : Int) - (W.length : Int)).toNat = le - W.length := by omega
  have y4 : f.length + W.length ≤ 16777216 := by omega
  have y5 : le - W.length ≤ 16777216 := by omega
  have y6 : f.length + W.length + (le - W.length) ≤ 16777216 := by omega
  have y7 : f.length + (W.length + (le - W.length)) ≤ 16777216 := by omega
  refine xss_go st1 ?_
  simp [op2_some, ev_cst, ev_var, ev_bin, ev_neg, ev_not, ev_and, ev_or, ev_cmp, ev_chn, ev_isN, ev_notN, ev_ife, ev_tup, ev_lst, ev_idx, ev_slc, ev_call, ev_blt, ev_met, ev_joi, ev_lc, ev_isi, tst_eq, evI_eq, evs_nil, evs_cons, evF_nil, evF_cons, evo_no, evo_so, xs_asg, xs_asgT, xs_par, xs_sub, xs_exp, xs_ret, xs_retN, xs_if, xs_for, xs_whl, xs_brk, xs_rse, xs_cnt, xs_pas, xss_nil, xss_cons, itK_seq, itK_rng1, itK_rng2, itK_rng3, itK_enm, itK_zip, bind_ok, bind_bad, of_ok, fbind_nx, fbind_rt, fbind_bk, fbind_ct, ofO_some, ofS_some, cnt_v, cnt_o, cnt_b, cntS_eq, frz_v, frz_o, frz_b, fr_no, fr_sh, fr_ow, fr_le, fr_lf, fr_lk, putS_fr, mutS_eq, SZ, idxV, slcV, metV, mokV, mok, inS, isiV, joiV, idxR, ixN_nat, ixN_num, binR, addR, mulR, intR, cmpR, D.tr, CM, opd, slcR, bltR, metR, hand, lent, dist, back, cnts, asgT, asgTs, D.eqv, eqvL, D.pl, plL, D.dep, depL, lockO, itemsOf, unlock, freeS, wipeS, restS, D.flat, k1, y2, y3, y4, y5, y6, y7, rep_one]
theorem pb_run {cf : Nat → List Slot → Co} {tg : Nat} (ht : Tags cf tg) {b : Nat} {rows : List (List Nat)} (ok : okPage b rows) (hb : b ≤ 64) (hn : rows.length ≤ 100) (e le : Nat) (he : 1 ≤ e) (hle : le ≤ 1000) :
    runDf ⟨3, 6, pbBody tg⟩ cf [.sh (pgD rows), .sh (nt e), .sh (nt le)] = .ok (.v (.str (pageF rows e le))) [.sh (pgD rows), .sh (nt e), .sh (nt le)] := by
  obtain ⟨s', ⟨x4, x5, f4, f5, rfl⟩, h⟩ := forL_rng (t := .var 4) (lk := []) (n := rows.length) (fb := xss cf (pbB tg)) (s := ⟨[.sh (pgD rows), .sh (nt e), .sh (nt le), .sh (.str []), .no, .no]⟩)
    (fun k s => ∃ x4 x5, fr x4 = true ∧ fr x5 = true ∧ s = ⟨[.sh (pgD rows), .sh (nt e), .sh (nt le), .sh (.str (bodyF rows e le k)), x4, x5]⟩) ⟨.no, .no, rfl, rfl, rfl⟩ (fun k s hk ⟨x4, x5, f4, f5, e'⟩ => by
      subst e'
      have hl := bodyF_len ok hb e le hle k (by omega)
      obtain ⟨y5, g5, hst⟩ := pb_step ht ok hb e le k he hle hk (bodyF rows e le k) (by omega) x5 f5
      exact ⟨_, _, putS_at (x := x4) rfl f4, .inl hst, .sh (nt k), y5, rfl, g5, by rw [bodyF_succ]⟩)
  have hl := bodyF_len ok hb e le hle rows.length (Nat.le_refl _)
  have en : evs cf (.cons (.blt .len (.cons (.var 0) .nil)) .nil) ⟨[.sh (pgD rows), .sh (nt e), .sh (nt le), .sh (.str []), .no, .no]⟩ = .ok [.v (.int (rows.length : Int))] ⟨[.sh (pgD rows), .sh (nt e), .sh (nt le), .sh (.str []), .no, .no]⟩ := by
    have : (rows.map D.str).length = rows.length := List.length_map ..
    unfold pgD
    generalize rows.map D.str = P at *
    simp [op2_some, ev_cst, ev_var, ev_bin, ev_neg, ev_not, ev_and, ev_or, ev_cmp, ev_chn, ev_isN, ev_notN, ev_ife, ev_tup, ev_lst, ev_idx, ev_slc, ev_call, ev_blt, ev_met, ev_joi, ev_lc, ev_isi, tst_eq, evI_eq, evs_nil, evs_cons, evF_nil, evF_cons, evo_no, evo_so, xs_asg, xs_asgT, xs_par, xs_sub, xs_exp, xs_ret, xs_retN, xs_if, xs_for, xs_whl, xs_brk, xs_rse, xs_cnt, xs_pas, xss_nil, xss_cons, itK_seq, itK_rng1, itK_rng2, itK_rng3, itK_enm, itK_zip, bind_ok, bind_bad, of_ok, fbind_nx, fbind_rt, fbind_bk, fbind_ct, ofO_some, ofS_some, cnt_v, cnt_o, cnt_b, cntS_eq, frz_v, frz_o, frz_b, fr_no, fr_sh, fr_ow, fr_le, fr_lf, fr_lk, putS_fr, mutS_eq, SZ, idxV, slcV, metV, mokV, mok, inS, isiV, joiV, idxR, ixN_nat, ixN_num, binR, addR, mulR, intR, cmpR, D.tr, CM, opd, slcR, bltR, metR, hand, lent, dist, back, cnts, asgT, asgTs, D.eqv, eqvL, D.pl, plL, D.dep, depL, lockO, itemsOf, unlock, freeS, wipeS, restS, D.flat, this]
  refine run_v (s := ⟨[.sh (pgD rows), .sh (nt e), .sh (nt le), .sh (.str (bodyF rows e le rows.length)), x4, x5]⟩) ⟨rfl, (show 3 ≤ 6 from by decide)⟩ (xss_go (s1 := ⟨[.sh (pgD rows), .sh (nt e), .sh (nt le), .sh (.str []), .no, .no]⟩) rfl (xss_go (for_go (rng_go en (by omega)) h) ?_)) rfl rfl
  unfold pageF
  generalize bodyF rows e le rows.length = f at *
  have hm : ∀ s, ev cf (.bin .mul (.bin .add (.cst (.str MARK)) (.cst (.str [49]))) (.cst (.int 6))) s = .ok (.v (.str LASTS)) s := fun s => rfl
  have hm' := hm ⟨[.sh (pgD rows), .sh (nt e), .sh (nt le), .sh (.str f), x4, x5]⟩
  have ll : LASTS.length = 78 := by decide
  generalize (Ex.bin .mul (.bin .add (.cst (.str MARK)) (.cst (.str [49]))) (.cst (.int 6))) = E at hm' ⊢
  generalize LASTS = T at *
  generalize pgD rows = P at *
  have y1 : f.length + T.length ≤ 16777216 := by omega
  simp [op2_some, ev_cst, ev_var, ev_bin, ev_neg, ev_not, ev_and, ev_or, ev_cmp, ev_chn, ev_isN, ev_notN, ev_ife, ev_tup, ev_lst, ev_idx, ev_slc, ev_call, ev_blt, ev_met, ev_joi, ev_lc, ev_isi, tst_eq, evI_eq, evs_nil, evs_cons, evF_nil, evF_cons, evo_no, evo_so, xs_asg, xs_asgT, xs_par, xs_sub, xs_exp, xs_ret, xs_retN, xs_if, xs_for, xs_whl, xs_brk, xs_rse, xs_cnt, xs_pas, xss_nil, xss_cons, itK_seq, itK_rng1, itK_rng2, itK_rng3, itK_enm, itK_zip, bind_ok, bind_bad, of_ok, fbind_nx, fbind_rt, fbind_bk, fbind_ct, ofO_some, ofS_some, cnt_v, cnt_o, cnt_b, cntS_eq, frz_v, frz_o, frz_b, fr_no, fr_sh, fr_ow, fr_le, fr_lf, fr_lk, putS_fr, mutS_eq, SZ, idxV, slcV, metV, mokV, mok, inS, isiV, joiV, idxR, ixN_nat, ixN_num, binR, addR, mulR, intR, cmpR, D.tr, CM, opd, slcR, bltR, metR, hand, lent, dist, back, cnts, asgT, asgTs, D.eqv, eqvL, D.pl, plL, D.dep, depL, lockO, itemsOf, unlock, freeS, wipeS, restS, D.flat, hm', y1]
end Z

/-! Z: the bits of a page, as the laws make them. -/
namespace Z
theorem o11 : okI 11 = true := by decide
def LPlains (cf : Nat → List Slot → Co) (pl : Nat) : Prop := ∀ row, row.length ≤ 64 → Sg row → cf pl [.le tabs, .sh (.str row)] = .ok (.v (.str (plainF row))) [.le tabs, .sh (.str row)]
def LAboves (cf : Nat → List Slot → Co) (ab : Nat) : Prop := ∀ above row, above.length = row.length → row.length ≤ 64 → Sg above → Sg row → cf ab [.le tabs, .sh (.str above), .sh (.str row)] = .ok (.v (.str (aboveF above row))) [.le tabs, .sh (.str above), .sh (.str row)]
def LRows (cf : Nat → List Slot → Co) (rb : Nat) : Prop := ∀ (b : Nat) (rows : List (List Nat)) (e le i : Nat), okPage b rows → b ≤ 64 → 1 ≤ e → e ≤ 1000 → le ≤ 1000 → i < rows.length →
  cf rb [.le tabs, .sh (pgD rows), .sh (nt i), .sh (nt e), .sh (nt le)] = .ok (.v (.str (rowF rows e le i))) [.le tabs, .sh (pgD rows), .sh (nt i), .sh (nt e), .sh (nt le)]
def lrbW : Ss := (.cons (.asg (.var 5) (.bin .add (.var 5) (.cst (.str [48]))))
  .nil)
def lrbBody (pl ab : Nat) : Ss :=
  (.cons (.iff (.cmp .eq (.bin .sub (.var 2) (.bin .mul (.bin .fdiv (.var 2) (.var 3)) (.var 3))) (.cst (.int 0))) (.cons (.asg (.var 5) (.bin .add (.bin .add (.bin .mul (.cst (.str [48])) (.cst (.int 11))) (.cst (.str [49, 49]))) (.call pl (.cons (.var 0) (.cons (.idx (.var 1) (.var 2)) .nil)))))
  .nil) (.cons (.asg (.var 5) (.bin .add (.bin .add (.bin .mul (.cst (.str [48])) (.cst (.int 11))) (.cst (.str [49, 48]))) (.call ab (.cons (.var 0) (.cons (.idx (.var 1) (.bin .sub (.var 2) (.cst (.int 1)))) (.cons (.idx (.var 1) (.var 2)) .nil))))))
  .nil))
  (.cons (.whl (.cmp .lt (.blt .len (.cons (.var 5) .nil)) (.var 4)) lrbW)
  (.cons (.ret (.var 5))
  .nil)))
/-- filled up with noughts, one by one -/
theorem fill_run (cf : Nat → List Slot → Co) (A B C E : Slot) (le : Nat) (hle : le ≤ 1000) (w : List Nat) (hw : w.length ≤ 1000000) :
    xs cf (.whl (.cmp .lt (.blt .len (.cons (.var 5) .nil)) (.var 4)) lrbW) ⟨[A, B, C, E, .sh (nt le), .sh (.str w)]⟩ = .nx ⟨[A, B, C, E, .sh (nt le), .sh (.str (w ++ List.replicate (le - w.length) 48))]⟩ := by
  obtain ⟨s', rfl, h⟩ := whl_go (cf := cf) (c := .cmp .lt (.blt .len (.cons (.var 5) .nil)) (.var 4)) (b := lrbW) (s := ⟨[A, B, C, E, .sh (nt le), .sh (.str w)]⟩)
    (fun m s => ∃ v : List Nat, v.length ≤ 1001000 ∧ m = le - v.length ∧ v ++ List.replicate (le - v.length) 48 = w ++ List.replicate (le - w.length) 48 ∧ s = ⟨[A, B, C, E, .sh (nt le), .sh (.str v)]⟩)
    (fun s => s = ⟨[A, B, C, E, .sh (nt le), .sh (.str (w ++ List.replicate (le - w.length) 48))]⟩) (fun m s ⟨v, hv, hm, he, e⟩ => by
      subst e
      have z1 : v.length ≤ 16777216 := by omega
      have hc : ∀ t, decide ((v.length : Int) < (le : Int)) = t → tst (ev cf (.cmp .lt (.blt .len (.cons (.var 5) .nil)) (.var 4))) ⟨[A, B, C, E, .sh (nt le), .sh (.str v)]⟩ = .ok t ⟨[A, B, C, E, .sh (nt le), .sh (.str v)]⟩ := by
        intro t ht
        subst ht
        simp [op2_some, ev_cst, ev_var, ev_bin, ev_neg, ev_not, ev_and, ev_or, ev_cmp, ev_chn, ev_isN, ev_notN, ev_ife, ev_tup, ev_lst, ev_idx, ev_slc, ev_call, ev_blt, ev_met, ev_joi, ev_lc, ev_isi, tst_eq, evI_eq, evs_nil, evs_cons, evF_nil, evF_cons, evo_no, evo_so, xs_asg, xs_asgT, xs_par, xs_sub, xs_exp, xs_ret, xs_retN, xs_if, xs_for, xs_whl, xs_brk, xs_rse, xs_cnt, xs_pas, xss_nil, xss_cons, itK_seq, itK_rng1, itK_rng2, itK_rng3, itK_enm, itK_zip, bind_ok, bind_bad, of_ok, fbind_nx, fbind_rt, fbind_bk, fbind_ct, ofO_some, ofS_some, cnt_v, cnt_o, cnt_b, cntS_eq, frz_v, frz_o, frz_b, fr_no, fr_sh, fr_ow, fr_le, fr_lf, fr_lk, putS_fr, mutS_eq, SZ, idxV, slcV, metV, mokV, mok, inS, isiV, joiV, idxR, ixN_nat, ixN_num, binR, addR, mulR, intR, cmpR, D.tr, CM, opd, slcR, bltR, metR, hand, lent, dist, back, cnts, asgT, asgTs, D.eqv, eqvL, D.pl, plL, D.dep, depL, lockO, itemsOf, unlock, freeS, wipeS, restS, D.flat, z1]
      by_cases hlt : v.length < le
      · refine .inr ⟨_, ⟨[A, B, C, E, .sh (nt le), .sh (.str (v ++ [48]))]⟩, le - (v ++ [48]).length, ?_, hc true (decide_eq_true (by omega)), .inl ?_, v ++ [48], by simp; omega, rfl, ?_, rfl⟩
        · rw [List.length_append, hm]; simp; omega
        · have z2 : v.length + 1 ≤ 16777216 := by omega
          unfold lrbW
          simp [op2_some, ev_cst, ev_var, ev_bin, ev_neg, ev_not, ev_and, ev_or, ev_cmp, ev_chn, ev_isN, ev_notN, ev_ife, ev_tup, ev_lst, ev_idx, ev_slc, ev_call, ev_blt, ev_met, ev_joi, ev_lc, ev_isi, tst_eq, evI_eq, evs_nil, evs_cons, evF_nil, evF_cons, evo_no, evo_so, xs_asg, xs_asgT, xs_par, xs_sub, xs_exp, xs_ret, xs_retN, xs_if, xs_for, xs_whl, xs_brk, xs_rse, xs_cnt, xs_pas, xss_nil, xss_cons, itK_seq, itK_rng1, itK_rng2, itK_rng3, itK_enm, itK_zip, bind_ok, bind_bad, of_ok, fbind_nx, fbind_rt, fbind_bk, fbind_ct, ofO_some, ofS_some, cnt_v, cnt_o, cnt_b, cntS_eq, frz_v, frz_o, frz_b, fr_no, fr_sh, fr_ow, fr_le, fr_lf, fr_lk, putS_fr, mutS_eq, SZ, idxV, slcV, metV, mokV, mok, inS, isiV, joiV, idxR, ixN_nat, ixN_num, binR, addR, mulR, intR, cmpR, D.tr, CM, opd, slcR, bltR, metR, hand, lent, dist, back, cnts, asgT, asgTs, D.eqv, eqvL, D.pl, plL, D.dep, depL, lockO, itemsOf, unlock, freeS, wipeS, restS, D.flat, z2]
        · rw [← he]
          have : le - v.length = (le - (v ++ [48]).length) + 1 := by rw [List.length_append]; simp; omega
          rw [this, List.replicate_succ]; simp
      · refine .inl ⟨_, hc false (decide_eq_false (by omega)), ?_⟩
        rw [← he]
        have : le - v.length = 0 := by omega
        rw [this]; simp)
    (m := le - w.length) ⟨w, by omega, rfl, rfl, rfl⟩ (by omega)
  exact h
theorem lrb_run {cf : Nat → List Slot → Co} {pl ab : Nat} (hp : LPlains cf pl) (ha : LAboves cf ab) {b : Nat} {rows : List (List Nat)} (ok : okPage b rows) (hb : b ≤ 64) (e le i : Nat) (he : 1 ≤ e) (he2 : e ≤ 1000) (hle : le ≤ 1000) (hi : i < rows.length) :
    runDf ⟨5, 6, lrbBody pl ab⟩ cf [.le tabs, .sh (pgD rows), .sh (nt i), .sh (nt e), .sh (nt le)] = .ok (.v (.str (rowF rows e le i))) [.le tabs, .sh (pgD rows), .sh (nt i), .sh (nt e), .sh (nt le)] := by
  obtain ⟨s0, hs0⟩ : ∃ s0 : S, s0 = ⟨[.le tabs, .sh (pgD rows), .sh (nt i), .sh (nt e), .sh (nt le), .no]⟩ := ⟨_, rfl⟩
  have hx := idx_go (cf := cf) (a := .var 1) (b := .var 2) (s := s0) (s1 := s0) (s2 := s0) (ra := .v (pgD rows)) (rb := .v (nt i)) (by rw [hs0]; rfl) (by rw [hs0]; rfl) rfl rfl (idx_tupP rows i hi)
  obtain ⟨l1, s1⟩ := ok.at i hi
  have ft : ((i : Int)).fdiv (e : Int) = ((i / e : Nat) : Int) := div_nat i e
  have e0 : ¬ e = 0 := by omega
  have hmod := Nat.div_add_mod i e
  have hcm : i / e * e = e * (i / e) := Nat.mul_comm _ _
  have hf : tst (ev cf (.cmp .eq (.bin .sub (.var 2) (.bin .mul (.bin .fdiv (.var 2) (.var 3)) (.var 3))) (.cst (.int 0)))) s0 = .ok (decide (i % e = 0)) s0 := by
    subst hs0
    generalize pgD rows = P at *
    generalize tabs = T at *
    have : ((i : Int) - ((i / e : Nat) : Int) * (e : Int) == 0) = decide (i % e = 0) := by
      rw [Bool.beq_eq_decide_eq]; refine decide_eq_decide.mpr ?_
      rw [← Int.natCast_mul]; omega
    generalize i / e = m at *
    have eb : e < 1073741824 := by omega
    have eb2 : e < 18446744073709551616 := by omega
    simp [op2_some, ev_cst, ev_var, ev_bin, ev_neg, ev_not, ev_and, ev_or, ev_cmp, ev_chn, ev_isN, ev_notN, ev_ife, ev_tup, ev_lst, ev_idx, ev_slc, ev_call, ev_blt, ev_met, ev_joi, ev_lc, ev_isi, tst_eq, evI_eq, evs_nil, evs_cons, evF_nil, evF_cons, evo_no, evo_so, xs_asg, xs_asgT, xs_par, xs_sub, xs_exp, xs_ret, xs_retN, xs_if, xs_for, xs_whl, xs_brk, xs_rse, xs_cnt, xs_pas, xss_nil, xss_cons, itK_seq, itK_rng1, itK_rng2, itK_rng3, itK_enm, itK_zip, bind_ok, bind_bad, of_ok, fbind_nx, fbind_rt, fbind_bk, fbind_ct, ofO_some, ofS_some, cnt_v, cnt_o, cnt_b, cntS_eq, frz_v, frz_o, frz_b, fr_no, fr_sh, fr_ow, fr_le, fr_lf, fr_lk, putS_fr, mutS_eq, SZ, idxV, slcV, metV, mokV, mok, inS, isiV, joiV, idxR, ixN_nat, ixN_num, binR, addR, mulR, intR, cmpR, D.tr, CM, opd, slcR, bltR, metR, hand, lent, dist, back, cnts, asgT, asgTs, D.eqv, eqvL, D.pl, plL, D.dep, depL, lockO, itemsOf, unlock, freeS, wipeS, restS, D.flat, ft, e0, eb, eb2, this]
  have hw := tagF_len ok hb e i hi
  have st1 : xs cf (.iff (.cmp .eq (.bin .sub (.var 2) (.bin .mul (.bin .fdiv (.var 2) (.var 3)) (.var 3))) (.cst (.int 0))) (.cons (.asg (.var 5) (.bin .add (.bin .add (.bin .mul (.cst (.str [48])) (.cst (.int 11))) (.cst (.str [49, 49]))) (.call pl (.cons (.var 0) (.cons (.idx (.var 1) (.var 2)) .nil)))))
      .nil) (.cons (.asg (.var 5) (.bin .add (.bin .add (.bin .mul (.cst (.str [48])) (.cst (.int 11))) (.cst (.str [49, 48]))) (.call ab (.cons (.var 0) (.cons (.idx (.var 1) (.bin .sub (.var 2) (.cst (.int 1)))) (.cons (.idx (.var 1) (.var 2)) .nil))))))
      .nil)) s0 = .nx ⟨[.le tabs, .sh (pgD rows), .sh (nt i), .sh (nt e), .sh (nt le), .sh (.str (MARK ++ tagF rows e i))]⟩ := by
    by_cases h : i % e = 0
    · have hc := hp (rows.getD i []) (by omega) s1
      have hl := plainF_len (rows.getD i [])
      rw [decide_eq_true h] at hf
      have hM : ∀ w, MARK ++ 49 :: w = List.replicate 11 48 ++ 49 :: 49 :: w := fun w => rfl
      unfold tagF
      rw [if_pos h, hM]
      refine if_t hf ?_
      subst hs0
      generalize rows.getD i [] = r at *
      generalize plainF r = w at *
      generalize pgD rows = P at *
      generalize tabs = T at *
      generalize (Ex.idx (.var 1) (.var 2)) = E at hx ⊢
      have y1 : 11 + (2 + w.length) ≤ 16777216 := by omega
      have y2 : 11 + 2 + w.length ≤ 16777216 := by omega
      have y3 : 13 + w.length ≤ 16777216 := by omega
      simp [op2_some, ev_cst, ev_var, ev_bin, ev_neg, ev_not, ev_and, ev_or, ev_cmp, ev_chn, ev_isN, ev_notN, ev_ife, ev_tup, ev_lst, ev_idx, ev_slc, ev_call, ev_blt, ev_met, ev_joi, ev_lc, ev_isi, tst_eq, evI_eq, evs_nil, evs_cons, evF_nil, evF_cons, evo_no, evo_so, xs_asg, xs_asgT, xs_par, xs_sub, xs_exp, xs_ret, xs_retN, xs_if, xs_for, xs_whl, xs_brk, xs_rse, xs_cnt, xs_pas, xss_nil, xss_cons, itK_seq, itK_rng1, itK_rng2, itK_rng3, itK_enm, itK_zip, bind_ok, bind_bad, of_ok, fbind_nx, fbind_rt, fbind_bk, fbind_ct, ofO_some, ofS_some, cnt_v, cnt_o, cnt_b, cntS_eq, frz_v, frz_o, frz_b, fr_no, fr_sh, fr_ow, fr_le, fr_lf, fr_lk, putS_fr, mutS_eq, SZ, idxV, slcV, metV, mokV, mok, inS, isiV, joiV, idxR, ixN_nat, ixN_num, binR, addR, mulR, intR, cmpR, D.tr, CM, opd, slcR, bltR, metR, hand, lent, dist, back, cnts, asgT, asgTs, D.eqv, eqvL, D.pl, plL, D.dep, depL, lockO, itemsOf, unlock, freeS, wipeS, restS, D.flat, hx, hc, y1, y2, y3, o11, rep_one]
    · have i0 : 0 < i := by
        rcases Nat.eq_zero_or_pos i with h0 | h0
        · exfalso; apply h; rw [h0]; exact Nat.zero_mod e
        · exact h0
      obtain ⟨l2, s2⟩ := ok.at (i - 1) (by omega)
      have hc := ha (rows.getD (i - 1) []) (rows.getD i []) (by omega) (by omega) s2 s1
      have hl := aboveF_len (rows.getD (i - 1) []) (rows.getD i [])
      have hm : (i : Int) - 1 = ((i - 1 : Nat) : Int) := by omega
      have hx2 := idx_go (cf := cf) (a := .var 1) (b := .bin .sub (.var 2) (.cst (.int 1))) (s := s0) (s1 := s0) (s2 := s0) (ra := .v (pgD rows)) (rb := .v (nt (i - 1))) (by rw [hs0]; rfl) (by rw [hs0]; show _ = Ro.ok (Rv.v (D.int ((i - 1 : Nat) : Int))) _; rw [← hm]; rfl) rfl rfl (idx_tupP rows (i - 1) (by omega))
      rw [decide_eq_false h] at hf
      have hM : ∀ w, MARK ++ 48 :: w = List.replicate 11 48 ++ 49 :: 48 :: w := fun w => rfl
      unfold tagF
      rw [if_neg h, hM]
      refine if_f hf ?_
      subst hs0
      generalize rows.getD (i - 1) [] = r0 at *
      generalize rows.getD i [] = r at *
      generalize aboveF r0 r = w at *
      generalize pgD rows = P at *
      generalize tabs = T at *
      generalize (Ex.idx (.var 1) (.var 2)) = E at hx ⊢
      generalize (Ex.idx (.var 1) (.bin .sub (.var 2) (.cst (.int 1)))) = E2 at hx2 ⊢
      have y1 : 11 + (2 + w.length) ≤ 16777216 := by omega
      have y2 : 11 + 2 + w.length ≤ 16777216 := by omega
      have y3 : 13 + w.length ≤ 16777216 := by omega
      simp [op2_some, ev_cst, ev_var, ev_bin, ev_neg, ev_not, ev_and, ev_or, ev_cmp, ev_chn, ev_isN, ev_notN, ev_ife, ev_tup, ev_lst, ev_idx, ev_slc, ev_call, ev_blt, ev_met, ev_joi, ev_lc, ev_isi, tst_eq, evI_eq, evs_nil, evs_cons, evF_nil, evF_cons, evo_no, evo_so, xs_asg, xs_asgT, xs_par, xs_sub, xs_exp, xs_ret, xs_retN, xs_if, xs_for, xs_whl, xs_brk, xs_rse, xs_cnt, xs_pas, xss_nil, xss_cons, itK_seq, itK_rng1, itK_rng2, itK_rng3, itK_enm, itK_zip, bind_ok, bind_bad, of_ok, fbind_nx, fbind_rt, fbind_bk, fbind_ct, ofO_some, ofS_some, cnt_v, cnt_o, cnt_b, cntS_eq, frz_v, frz_o, frz_b, fr_no, fr_sh, fr_ow, fr_le, fr_lf, fr_lk, putS_fr, mutS_eq, SZ, idxV, slcV, metV, mokV, mok, inS, isiV, joiV, idxR, ixN_nat, ixN_num, binR, addR, mulR, intR, cmpR, D.tr, CM, opd, slcR, bltR, metR, hand, lent, dist, back, cnts, asgT, asgTs, D.eqv, eqvL, D.pl, plL, D.dep, depL, lockO, itemsOf, unlock, freeS, wipeS, restS, D.flat, hx, hx2, hc, y1, y2, y3, o11, rep_one]
  subst hs0
  have st2 := fill_run cf (.le tabs) (.sh (pgD rows)) (.sh (nt i)) (.sh (nt e)) le hle (MARK ++ tagF rows e i) (by rw [List.length_append]; show 12 + _ ≤ _; omega)
  exact run_v (s := ⟨[.le tabs, .sh (pgD rows), .sh (nt i), .sh (nt e), .sh (nt le), .sh (.str (rowF rows e le i))]⟩) ⟨rfl, (show 5 ≤ 6 from by decide)⟩ (xss_go st1 (xss_go st2 rfl)) rfl rfl
def lpbB (rb : Nat) : Ss := (.cons (.asg (.var 4) (.bin .add (.var 4) (.call rb (.cons (.var 0) (.cons (.var 1) (.cons (.var 5) (.cons (.var 2) (.cons (.var 3) .nil))))))))
  .nil)
def lpbB2 : Ss := (.cons (.asg (.var 4) (.bin .add (.bin .add (.var 4) (.bin .mul (.cst (.str [48])) (.cst (.int 11)))) (.cst (.str [49, 49]))))
  .nil)
def lpbBody (rb : Nat) : Ss :=
  (.cons (.asg (.var 4) (.cst (.str [])))
  (.cons (.fors (.var 5) .rng1 (.cons (.blt .len (.cons (.var 1) .nil)) .nil) (lpbB rb))
  (.cons (.fors (.var 6) .rng1 (.cons (.cst (.int 6)) .nil) lpbB2)
  (.cons (.ret (.var 4))
  .nil))))
theorem lpb_run {cf : Nat → List Slot → Co} {rb : Nat} (hr : LRows cf rb) {b : Nat} {rows : List (List Nat)} (ok : okPage b rows) (hb : b ≤ 64) (hn : rows.length ≤ 100) (e le : Nat) (he : 1 ≤ e) (he2 : e ≤ 1000) (hle : le ≤ 1000) :
    runDf ⟨4, 7, lpbBody rb⟩ cf [.le tabs, .sh (pgD rows), .sh (nt e), .sh (nt le)] = .ok (.v (.str (pageF rows e le))) [.le tabs, .sh (pgD rows), .sh (nt e), .sh (nt le)] := by
  obtain ⟨s', ⟨x5, f5, rfl⟩, h⟩ := forL_rng (t := .var 5) (lk := []) (n := rows.length) (fb := xss cf (lpbB rb)) (s := ⟨[.le tabs, .sh (pgD rows), .sh (nt e), .sh (nt le), .sh (.str []), .no, .no]⟩)
    (fun k s => ∃ x5, fr x5 = true ∧ s = ⟨[.le tabs, .sh (pgD rows), .sh (nt e), .sh (nt le), .sh (.str (bodyF rows e le k)), x5, .no]⟩) ⟨.no, rfl, rfl⟩ (fun k s hk ⟨x5, f5, e'⟩ => by
      subst e'
      have hl := bodyF_len ok hb e le hle k (by omega)
      have hl2 := rowF_len ok hb e le k hle hk
      have hc := hr b rows e le k ok hb he he2 hle hk
      refine ⟨_, ⟨[.le tabs, .sh (pgD rows), .sh (nt e), .sh (nt le), .sh (.str (bodyF rows e le (k + 1))), .sh (nt k), .no]⟩, putS_at (x := x5) rfl f5, .inl ?_, .sh (nt k), rfl, rfl⟩
      rw [bodyF_succ]
      generalize bodyF rows e le k = f at *
      generalize rowF rows e le k = w at *
      generalize pgD rows = P at *
      generalize tabs = T at *
      have y1 : f.length + w.length ≤ 16777216 := by omega
      unfold lpbB
      simp [op2_some, ev_cst, ev_var, ev_bin, ev_neg, ev_not, ev_and, ev_or, ev_cmp, ev_chn, ev_isN, ev_notN, ev_ife, ev_tup, ev_lst, ev_idx, ev_slc, ev_call, ev_blt, ev_met, ev_joi, ev_lc, ev_isi, tst_eq, evI_eq, evs_nil, evs_cons, evF_nil, evF_cons, evo_no, evo_so, xs_asg, xs_asgT, xs_par, xs_sub, xs_exp, xs_ret, xs_retN, xs_if, xs_for, xs_whl, xs_brk, xs_rse, xs_cnt, xs_pas, xss_nil, xss_cons, itK_seq, itK_rng1, itK_rng2, itK_rng3, itK_enm, itK_zip, bind_ok, bind_bad, of_ok, fbind_nx, fbind_rt, fbind_bk, fbind_ct, ofO_some, ofS_some, cnt_v, cnt_o, cnt_b, cntS_eq, frz_v, frz_o, frz_b, fr_no, fr_sh, fr_ow, fr_le, fr_lf, fr_lk, putS_fr, mutS_eq, SZ, idxV, slcV, metV, mokV, mok, inS, isiV, joiV, idxR, ixN_nat, ixN_num, binR, addR, mulR, intR, cmpR, D.tr, CM, opd, slcR, bltR, metR, hand, lent, dist, back, cnts, asgT, asgTs, D.eqv, eqvL, D.pl, plL, D.dep, depL, lockO, itemsOf, unlock, freeS, wipeS, restS, D.flat, hc, y1])
  have hl := bodyF_len ok hb e le hle rows.length (Nat.le_refl _)
  have en : evs cf (.cons (.blt .len (.cons (.var 1) .nil)) .nil) ⟨[.le tabs, .sh (pgD rows), .sh (nt e), .sh (nt le), .sh (.str []), .no, .no]⟩ = .ok [.v (.int (rows.length : Int))] ⟨[.le tabs, .sh (pgD rows), .sh (nt e), .sh (nt le), .sh (.str []), .no, .no]⟩ := by
    have : (rows.map D.str).length = rows.length := List.length_map ..
    unfold pgD
    generalize rows.map D.str = P at *
    generalize tabs = T at *
    simp [op2_some, ev_cst, ev_var, ev_bin, ev_neg, ev_not, ev_and, ev_or, ev_cmp, ev_chn, ev_isN, ev_notN, ev_ife, ev_tup, ev_lst, ev_idx, ev_slc, ev_call, ev_blt, ev_met, ev_joi, ev_lc, ev_isi, tst_eq, evI_eq, evs_nil, evs_cons, evF_nil, evF_cons, evo_no, evo_so, xs_asg, xs_asgT, xs_par, xs_sub, xs_exp, xs_ret, xs_retN, xs_if, xs_for, xs_whl, xs_brk, xs_rse, xs_cnt, xs_pas, xss_nil, xss_cons, itK_seq, itK_rng1, itK_rng2, itK_rng3, itK_enm, itK_zip, bind_ok, bind_bad, of_ok, fbind_nx, fbind_rt, fbind_bk, fbind_ct, ofO_some, ofS_some, cnt_v, cnt_o, cnt_b, cntS_eq, frz_v, frz_o, frz_b, fr_no, fr_sh, fr_ow, fr_le, fr_lf, fr_lk, putS_fr, mutS_eq, SZ, idxV, slcV, metV, mokV, mok, inS, isiV, joiV, idxR, ixN_nat, ixN_num, binR, addR, mulR, intR, cmpR, D.tr, CM, opd, slcR, bltR, metR, hand, lent, dist, back, cnts, asgT, asgTs, D.eqv, eqvL, D.pl, plL, D.dep, depL, lockO, itemsOf, unlock, freeS, wipeS, restS, D.flat, this]
  unfold pageF
  generalize hf : bodyF rows e le rows.length = f at *
  obtain ⟨s', ⟨x6, f6, rfl⟩, h2⟩ := forL_rng (t := .var 6) (lk := []) (n := 6) (fb := xss cf lpbB2) (s := ⟨[.le tabs, .sh (pgD rows), .sh (nt e), .sh (nt le), .sh (.str f), x5, .no]⟩)
    (fun k s => ∃ x6, fr x6 = true ∧ s = ⟨[.le tabs, .sh (pgD rows), .sh (nt e), .sh (nt le), .sh (.str (f ++ (List.replicate k (MARK ++ [49])).flatten)), x5, x6]⟩) ⟨.no, rfl, by simp⟩ (fun k s hk ⟨x6, f6, e'⟩ => by
      subst e'
      refine ⟨_, ⟨[.le tabs, .sh (pgD rows), .sh (nt e), .sh (nt le), .sh (.str (f ++ (List.replicate (k + 1) (MARK ++ [49])).flatten)), x5, .sh (nt k)]⟩, putS_at (x := x6) rfl f6, .inl ?_, .sh (nt k), rfl, rfl⟩
      have hlk : (List.replicate k (MARK ++ [49])).flatten.length = k * 13 := by
        rw [List.length_flatten]; simp [MARK]
      have he2 : f ++ (List.replicate (k + 1) (MARK ++ [49])).flatten = (f ++ (List.replicate k (MARK ++ [49])).flatten) ++ (List.replicate 11 48 ++ [49, 49]) := by
        rw [List.replicate_succ', List.flatten_append]; simp [MARK, List.replicate]
      rw [he2]
      have hfl : (f ++ (List.replicate k (MARK ++ [49])).flatten).length ≤ 500000 := by rw [List.length_append, hlk]; omega
      generalize f ++ (List.replicate k (MARK ++ [49])).flatten = F at *
      generalize pgD rows = P at *
      generalize tabs = T at *
      have y1 : F.length + 11 ≤ 16777216 := by omega
      have y2 : F.length + 11 + 2 ≤ 16777216 := by omega
      have y3 : F.length + (11 + 2) ≤ 16777216 := by omega
      have y4 : F.length + 13 ≤ 16777216 := by omega
      unfold lpbB2
      simp [op2_some, ev_cst, ev_var, ev_bin, ev_neg, ev_not, ev_and, ev_or, ev_cmp, ev_chn, ev_isN, ev_notN, ev_ife, ev_tup, ev_lst, ev_idx, ev_slc, ev_call, ev_blt, ev_met, ev_joi, ev_lc, ev_isi, tst_eq, evI_eq, evs_nil, evs_cons, evF_nil, evF_cons, evo_no, evo_so, xs_asg, xs_asgT, xs_par, xs_sub, xs_exp, xs_ret, xs_retN, xs_if, xs_for, xs_whl, xs_brk, xs_rse, xs_cnt, xs_pas, xss_nil, xss_cons, itK_seq, itK_rng1, itK_rng2, itK_rng3, itK_enm, itK_zip, bind_ok, bind_bad, of_ok, fbind_nx, fbind_rt, fbind_bk, fbind_ct, ofO_some, ofS_some, cnt_v, cnt_o, cnt_b, cntS_eq, frz_v, frz_o, frz_b, fr_no, fr_sh, fr_ow, fr_le, fr_lf, fr_lk, putS_fr, mutS_eq, SZ, idxV, slcV, metV, mokV, mok, inS, isiV, joiV, idxR, ixN_nat, ixN_num, binR, addR, mulR, intR, cmpR, D.tr, CM, opd, slcR, bltR, metR, hand, lent, dist, back, cnts, asgT, asgTs, D.eqv, eqvL, D.pl, plL, D.dep, depL, lockO, itemsOf, unlock, freeS, wipeS, restS, D.flat, y1, y2, y3, y4, o11, rep_one])
  have e6 : LASTS = (List.replicate 6 (MARK ++ [49])).flatten := rfl
  rw [e6]
  exact run_v (s := ⟨[.le tabs, .sh (pgD rows), .sh (nt e), .sh (nt le), .sh (.str (f ++ (List.replicate 6 (MARK ++ [49])).flatten)), x5, x6]⟩) ⟨rfl, (show 4 ≤ 7 from by decide)⟩ (xss_go (s1 := ⟨[.le tabs, .sh (pgD rows), .sh (nt e), .sh (nt le), .sh (.str []), .no, .no]⟩) rfl (xss_go (for_go (rng_go en (by omega)) h) (xss_go (for_go (rng_go (n := 6) rfl (by decide)) h2) rfl))) rfl rfl
/-- one of some numbers, by a draw -/
theorem pick_run {cf : Nat → List Slot → Co} {dr v : Nat} (hd : Draws cf dr) {l l1 : List Slot} {g1 : Int × Int} {es : Exs} (vals : List Nat) (hev : evF cf es ⟨l⟩ = .ok (vals.map nt) ⟨l1⟩) (hl : l1[v]? = some (.ow (bg g1))) {c : Int} (hc : c = (vals.length : Int)) (h0 : 0 < vals.length) (h1 : vals.length ≤ 1000) :
    ∃ (n : Nat) (g' : Int × Int), n ∈ vals ∧ ev cf (.idx (.lst es) (.call dr (.cons (.var v) (.cons (.cst (.int c)) .nil)))) ⟨l⟩ = .ok (.v (nt n)) ⟨l1.set v (.ow (bg g'))⟩ := by
  subst hc
  have b := drawV_lt g1 (m := (vals.length : Int)) (by omega)
  obtain ⟨m, hm⟩ := Int.eq_ofNat_of_zero_le b.1
  rw [hm] at b
  have hml : m < vals.length := by omega
  have d := draw_ow hd (e := .cst (.int (vals.length : Int))) (l := l1) (l' := l1) hl rfl hl (by omega) (by omega)
  rw [hm] at d
  refine ⟨vals[m], _, List.getElem_mem hml, idx_go (lst_go hev (by rw [List.length_map]; exact h1)) d rfl rfl ?_⟩
  show (ixN (vals.map nt).length (m : Int)).bind (fun k => (vals.map nt)[k]?) = _
  rw [ixN_nat, if_pos (by rw [List.length_map]; exact hml)]
  show (vals.map nt)[m]? = _
  rw [List.getElem?_map, List.getElem?_eq_getElem hml]; rfl
theorem drawN {cf : Nat → List Slot → Co} {dr v : Nat} (hd : Draws cf dr) {l : List Slot} {g : Int × Int} (hl : l[v]? = some (.ow (bg g))) (m : Nat) (h0 : 0 < m) (h1 : m ≤ 1000000) :
    ∃ (n : Nat) (g' : Int × Int), n < m ∧ ev cf (.call dr (.cons (.var v) (.cons (.cst (.int (m : Int))) .nil))) ⟨l⟩ = .ok (.v (nt n)) ⟨l.set v (.ow (bg g'))⟩ := by
  have b := drawV_lt g (m := (m : Int)) (by omega)
  obtain ⟨k, hk⟩ := Int.eq_ofNat_of_zero_le b.1
  rw [hk] at b
  have d := draw_ow hd (e := .cst (.int (m : Int))) (l := l) (l' := l) hl rfl hl (by omega) (by omega)
  rw [hk] at d
  exact ⟨k, _, by omega, d⟩
end Z

/-! Z: noughts in a row; marks; pieces between marks. -/
namespace Z
def run0 : Nat → List Nat → Option Nat
  | z, [] => some z
  | z, c :: w => if c = 49 then run0 0 w else if c = 48 ∧ z + 1 < 10 then run0 (z + 1) w else none
theorem run0_cons (z c : Nat) (w : List Nat) : run0 z (c :: w) = if c = 49 then run0 0 w else if c = 48 ∧ z + 1 < 10 then run0 (z + 1) w else none := rfl
theorem run0_app : ∀ (a b : List Nat) (z : Nat), run0 z (a ++ b) = (run0 z a).bind fun z' => run0 z' b
  | [], b, z => rfl
  | c :: a, b, z => by
    rw [List.cons_append, run0_cons, run0_cons]
    split
    · exact run0_app a b 0
    · split
      · exact run0_app a b (z + 1)
      · rfl
def OkW (w : List Nat) : Prop := ∀ z, z ≤ 4 → ∃ z', z' ≤ 4 ∧ run0 z w = some z'
theorem OkW.nil : OkW [] := fun z hz => ⟨z, hz, rfl⟩
theorem OkW.app {a b : List Nat} (ha : OkW a) (hb : OkW b) : OkW (a ++ b) := fun z hz => by
  obtain ⟨z1, h1, e1⟩ := ha z hz
  obtain ⟨z2, h2, e2⟩ := hb z1 h1
  exact ⟨z2, h2, by rw [run0_app, e1]; exact e2⟩
theorem OkW.flat : ∀ (l : List (List Nat)), (∀ x ∈ l, OkW x) → OkW l.flatten
  | [], _ => OkW.nil
  | x :: l, h => by
    rw [List.flatten_cons]
    exact (h x (List.mem_cons_self ..)).app (OkW.flat l fun y hy => h y (List.mem_cons_of_mem _ hy))
def okWb (w : List Nat) : Bool := (List.range 5).all fun z => match run0 z w with | some z' => decide (z' ≤ 4) | none => false
theorem okWb_ok {w : List Nat} (h : okWb w = true) : OkW w := fun z hz => by
  have h := List.all_eq_true.mp h z (List.mem_range.mpr (by omega))
  cases e : run0 z w with
  | none => rw [e] at h; cases h
  | some z' => rw [e] at h; exact ⟨z', of_decide_eq_true h, rfl⟩
theorem okW_getD {W : List (List Nat)} (h : W.all okWb = true) (i : Nat) : OkW (W.getD i []) := by
  rw [List.getD_eq_getElem?_getD]
  cases e : W[i]? with
  | none => exact OkW.nil
  | some w => exact okWb_ok (List.all_eq_true.mp h w (List.mem_of_getElem? e))
theorem okW_wds (c i : Nat) : OkW ((wds c).getD i []) := by
  unfold wds
  split
  · exact okW_getD (by decide) i
  · exact okW_getD (by decide) i
theorem okW_stW (i : Nat) : OkW (stW i) := okW_getD (W := StW) (by decide) i
theorem okW_runW (c r : Nat) : OkW (runW c r) := by
  unfold runW
  split
  · exact okW_wds c r
  · exact (okW_wds c _).app (okW_wds c _)
theorem okW_tell : ∀ (rs : List Nat) (c : Nat), OkW (tell c rs)
  | [], c => OkW.nil
  | r :: rs, c => (okW_runW c r).app (okW_tell rs (flip1 c))
theorem okW_plain (row : List Nat) : OkW (plainF row) := okW_tell _ _
theorem okW_tellS (x : Stp × Nat) : OkW (tellS x) := by
  obtain ⟨st, c⟩ := x
  cases st with
  | passed => exact okW_stW 4
  | near d => exact okW_stW (nearI d)
  | plain a b => exact (okW_stW 3).app ((okW_runW c a).app (okW_runW (flip1 c) b))
theorem okW_above (above row : List Nat) : OkW (aboveF above row) := OkW.flat _ fun x hx => by
  obtain ⟨y, _, rfl⟩ := List.mem_map.mp hx
  exact okW_tellS y
theorem run0_lt : ∀ (w : List Nat) (z z' : Nat), z < 10 → run0 z w = some z' → z' < 10
  | [], z, z', h, e => by cases e; exact h
  | c :: w, z, z', h, e => by
    unfold run0 at e
    split at e
    · exact run0_lt w 0 z' (by decide) e
    · split at e
      · rename_i h2; exact run0_lt w (z + 1) z' h2.2 e
      · cases e
theorem run0_ten : ∀ (k z : Nat) (r : List Nat), z < 10 → 10 ≤ z + k → run0 z (List.replicate k 48 ++ r) = none
  | 0, z, r, h1, h2 => by omega
  | k + 1, z, r, h1, h2 => by
    rw [List.replicate_succ]
    show run0 z (48 :: (List.replicate k 48 ++ r)) = none
    unfold run0
    rw [if_neg (by decide)]
    by_cases h3 : z + 1 < 10
    · rw [if_pos ⟨rfl, h3⟩]; exact run0_ten k (z + 1) r h3 (by omega)
    · rw [if_neg (fun h => h3 h.2)]
theorem no_ten {w : List Nat} {z : Nat} (h : run0 0 w = some z) : inS (List.replicate 10 48) w = false := by
  show (fnd w (List.replicate 10 48) 0).isSome = false
  rw [Option.isSome_eq_false_iff, Option.isNone_iff_eq_none]
  refine List.find?_eq_none.mpr fun i _ => ?_
  intro hb
  rw [Bool.and_eq_true] at hb
  have hb := hb.2
  unfold atS at hb
  rw [Bool.and_eq_true] at hb
  obtain ⟨r, hr⟩ := List.isPrefixOf_iff_prefix.mp hb.2
  rw [← List.take_append_drop i w, ← hr, run0_app] at h
  cases e : run0 0 (w.take i) with
  | none => rw [e] at h; cases h
  | some z1 =>
    rw [e] at h
    have := run0_ten 10 z1 r (run0_lt _ _ _ (by decide) e) (by omega)
    rw [show (some z1).bind (fun z' => run0 z' (List.replicate 10 48 ++ r)) = run0 z1 (List.replicate 10 48 ++ r) from rfl, this] at h
    cases h
theorem run0_tag (rows : List (List Nat)) (e i : Nat) : ∃ z, z ≤ 4 ∧ run0 0 (tagF rows e i) = some z := by
  unfold tagF
  split
  · obtain ⟨z, h1, h2⟩ := okW_plain (rows.getD i []) 0 (by decide)
    exact ⟨z, h1, h2⟩
  · obtain ⟨z, h1, h2⟩ := okW_above (rows.getD (i - 1) []) (rows.getD i []) 1 (by decide)
    exact ⟨z, h1, h2⟩
/-! marks counted -/
def mk1 (s : Nat × Nat) (c : Nat) : Nat × Nat := (if c = 49 ∧ 11 ≤ s.2 then s.1 + 1 else s.1, if c = 48 then s.2 + 1 else 0)
theorem mk_run0 : ∀ (w : List Nat) (f z z' : Nat), z < 10 → run0 z w = some z' → w.foldl mk1 (f, z) = (f, z')
  | [], f, z, z', _, h => by cases h; rfl
  | c :: w, f, z, z', hz, h => by
    unfold run0 at h
    rw [List.foldl_cons]
    split at h
    · rename_i hc
      have : mk1 (f, z) c = (f, 0) := by subst hc; show (if (49 : Nat) = 49 ∧ 11 ≤ z then f + 1 else f, _) = _; rw [if_neg (by omega)]; rfl
      rw [this]; exact mk_run0 w f 0 z' (by decide) h
    · split at h
      · rename_i _ hc
        have : mk1 (f, z) c = (f, z + 1) := by rw [hc.1]; rfl
        rw [this]; exact mk_run0 w f (z + 1) z' hc.2 h
      · cases h
theorem mk_zeros : ∀ (n f z : Nat), (List.replicate n 48).foldl mk1 (f, z) = (f, z + n)
  | 0, f, z => rfl
  | n + 1, f, z => by
    rw [List.replicate_succ, List.foldl_cons]
    show (List.replicate n 48).foldl mk1 (f, z + 1) = _
    rw [mk_zeros n f (z + 1)]; congr 1; omega
theorem mk_MARK (f z : Nat) : MARK.foldl mk1 (f, z) = (f + 1, 0) := by
  show (List.replicate 11 48 ++ [49]).foldl mk1 (f, z) = _
  rw [List.foldl_append, mk_zeros]
  show (if (49 : Nat) = 49 ∧ 11 ≤ z + 11 then f + 1 else f, _) = _
  rw [if_pos ⟨rfl, by omega⟩]; rfl
theorem mk_row (rows : List (List Nat)) (e le i f z : Nat) : ∃ z', (rowF rows e le i).foldl mk1 (f, z) = (f + 1, z') := by
  obtain ⟨z1, _, h⟩ := run0_tag rows e i
  unfold rowF
  rw [List.foldl_append, List.foldl_append, mk_MARK, mk_run0 _ _ _ _ (by decide) h, mk_zeros]
  exact ⟨_, rfl⟩
theorem mk_body (rows : List (List Nat)) (e le : Nat) : ∀ n, ∃ z, (bodyF rows e le n).foldl mk1 (0, 0) = (n, z)
  | 0 => ⟨0, rfl⟩
  | n + 1 => by
    obtain ⟨z, h⟩ := mk_body rows e le n
    obtain ⟨z', h'⟩ := mk_row rows e le n n z
    rw [bodyF_succ, List.foldl_append, h]
    exact ⟨z', h'⟩
theorem mk_last (f z : Nat) : (MARK ++ [49]).foldl mk1 (f, z) = (f + 1, 0) := by
  rw [List.foldl_append, mk_MARK]; rfl
theorem mk_page (rows : List (List Nat)) (e le : Nat) : (pageF rows e le).foldl mk1 (0, 0) = (rows.length + 6, 0) := by
  obtain ⟨z, h⟩ := mk_body rows e le rows.length
  have e6 : LASTS = (MARK ++ [49]) ++ ((MARK ++ [49]) ++ ((MARK ++ [49]) ++ ((MARK ++ [49]) ++ ((MARK ++ [49]) ++ (MARK ++ [49]))))) := rfl
  unfold pageF
  rw [List.foldl_append, h, e6]
  simp only [List.foldl_append (l := MARK ++ [49]), mk_last]
theorem pageF_len {b : Nat} {rows : List (List Nat)} (ok : okPage b rows) (hb : b ≤ 64) (e le : Nat) (hle : le ≤ 1000) (hn : rows.length ≤ 100) : (pageF rows e le).length ≤ 500000 := by
  have := bodyF_len ok hb e le hle rows.length (Nat.le_refl _)
  unfold pageF
  rw [List.length_append]
  have : LASTS.length = 78 := by decide
  omega
def marksB : Ss := (.cons (.iff (.and (.cmp .eq (.var 3) (.cst (.str [49]))) (.cmp .ge (.var 2) (.cst (.int 11)))) (.cons (.asg (.var 1) (.bin .add (.var 1) (.cst (.int 1))))
  .nil) .nil)
  (.cons (.asg (.var 2) (.bin .mul (.bin .add (.var 2) (.cst (.int 1))) (.blt .int (.cons (.cmp .eq (.var 3) (.cst (.str [48]))) .nil))))
  .nil))
def marksBody : Ss :=
  (.cons (.asg (.var 1) (.cst (.int 0)))
  (.cons (.asg (.var 2) (.cst (.int 0)))
  (.cons (.fors (.var 3) .seq (.cons (.var 0) .nil) marksB)
  (.cons (.ret (.var 1))
  .nil))))
theorem marks_step (cf : Nat → List Slot → Co) (A : Slot) (f z c : Nat) (hf : f ≤ 1000000) (hz : z ≤ 1000000) : xss cf marksB ⟨[A, .sh (nt f), .sh (nt z), .sh (ch c)]⟩ = .nx ⟨[A, .sh (nt (mk1 (f, z) c).1), .sh (nt (mk1 (f, z) c).2), .sh (ch c)]⟩ := by
  unfold mk1 marksB
  have b1 : ¬ 18446744073709551616 ≤ z + 1 := by omega
  have b2 : z + 1 < 18446744073709551616 := by omega
  by_cases h49 : c = 49
  · subst h49
    by_cases hz : (11 : Int) ≤ (z : Int)
    · have hz2 : 11 ≤ z := by omega
      simp [op2_some, ev_cst, ev_var, ev_bin, ev_neg, ev_not, ev_and, ev_or, ev_cmp, ev_chn, ev_isN, ev_notN, ev_ife, ev_tup, ev_lst, ev_idx, ev_slc, ev_call, ev_blt, ev_met, ev_joi, ev_lc, ev_isi, tst_eq, evI_eq, evs_nil, evs_cons, evF_nil, evF_cons, evo_no, evo_so, xs_asg, xs_asgT, xs_par, xs_sub, xs_exp, xs_ret, xs_retN, xs_if, xs_for, xs_whl, xs_brk, xs_rse, xs_cnt, xs_pas, xss_nil, xss_cons, itK_seq, itK_rng1, itK_rng2, itK_rng3, itK_enm, itK_zip, bind_ok, bind_bad, of_ok, fbind_nx, fbind_rt, fbind_bk, fbind_ct, ofO_some, ofS_some, cnt_v, cnt_o, cnt_b, cntS_eq, frz_v, frz_o, frz_b, fr_no, fr_sh, fr_ow, fr_le, fr_lf, fr_lk, putS_fr, mutS_eq, SZ, idxV, slcV, metV, mokV, mok, inS, isiV, joiV, idxR, ixN_nat, ixN_num, binR, addR, mulR, intR, cmpR, D.tr, CM, opd, slcR, bltR, metR, hand, lent, dist, back, cnts, asgT, asgTs, D.eqv, eqvL, D.pl, plL, D.dep, depL, lockO, itemsOf, unlock, freeS, wipeS, restS, D.flat, hz, hz2, b1, b2]
    · have hz2 : ¬ 11 ≤ z := by omega
      simp [op2_some, ev_cst, ev_var, ev_bin, ev_neg, ev_not, ev_and, ev_or, ev_cmp, ev_chn, ev_isN, ev_notN, ev_ife, ev_tup, ev_lst, ev_idx, ev_slc, ev_call, ev_blt, ev_met, ev_joi, ev_lc, ev_isi, tst_eq, evI_eq, evs_nil, evs_cons, evF_nil, evF_cons, evo_no, evo_so, xs_asg, xs_asgT, xs_par, xs_sub, xs_exp, xs_ret, xs_retN, xs_if, xs_for, xs_whl, xs_brk, xs_rse, xs_cnt, xs_pas, xss_nil, xss_cons, itK_seq, itK_rng1, itK_rng2, itK_rng3, itK_enm, itK_zip, bind_ok, bind_bad, of_ok, fbind_nx, fbind_rt, fbind_bk, fbind_ct, ofO_some, ofS_some, cnt_v, cnt_o, cnt_b, cntS_eq, frz_v, frz_o, frz_b, fr_no, fr_sh, fr_ow, fr_le, fr_lf, fr_lk, putS_fr, mutS_eq, SZ, idxV, slcV, metV, mokV, mok, inS, isiV, joiV, idxR, ixN_nat, ixN_num, binR, addR, mulR, intR, cmpR, D.tr, CM, opd, slcR, bltR, metR, hand, lent, dist, back, cnts, asgT, asgTs, D.eqv, eqvL, D.pl, plL, D.dep, depL, lockO, itemsOf, unlock, freeS, wipeS, restS, D.flat, hz, hz2, b1, b2]
  · by_cases h48 : c = 48
    · subst h48
      simp [op2_some, ev_cst, ev_var, ev_bin, ev_neg, ev_not, ev_and, ev_or, ev_cmp, ev_chn, ev_isN, ev_notN, ev_ife, ev_tup, ev_lst, ev_idx, ev_slc, ev_call, ev_blt, ev_met, ev_joi, ev_lc, ev_isi, tst_eq, evI_eq, evs_nil, evs_cons, evF_nil, evF_cons, evo_no, evo_so, xs_asg, xs_asgT, xs_par, xs_sub, xs_exp, xs_ret, xs_retN, xs_if, xs_for, xs_whl, xs_brk, xs_rse, xs_cnt, xs_pas, xss_nil, xss_cons, itK_seq, itK_rng1, itK_rng2, itK_rng3, itK_enm, itK_zip, bind_ok, bind_bad, of_ok, fbind_nx, fbind_rt, fbind_bk, fbind_ct, ofO_some, ofS_some, cnt_v, cnt_o, cnt_b, cntS_eq, frz_v, frz_o, frz_b, fr_no, fr_sh, fr_ow, fr_le, fr_lf, fr_lk, putS_fr, mutS_eq, SZ, idxV, slcV, metV, mokV, mok, inS, isiV, joiV, idxR, ixN_nat, ixN_num, binR, addR, mulR, intR, cmpR, D.tr, CM, opd, slcR, bltR, metR, hand, lent, dist, back, cnts, asgT, asgTs, D.eqv, eqvL, D.pl, plL, D.dep, depL, lockO, itemsOf, unlock, freeS, wipeS, restS, D.flat, b1, b2]
    · simp [op2_some, ev_cst, ev_var, ev_bin, ev_neg, ev_not, ev_and, ev_or, ev_cmp, ev_chn, ev_isN, ev_notN, ev_ife, ev_tup, ev_lst, ev_idx, ev_slc, ev_call, ev_blt, ev_met, ev_joi, ev_lc, ev_isi, tst_eq, evI_eq, evs_nil, evs_cons, evF_nil, evF_cons, evo_no, evo_so, xs_asg, xs_asgT, xs_par, xs_sub, xs_exp, xs_ret, xs_retN, xs_if, xs_for, xs_whl, xs_brk, xs_rse, xs_cnt, xs_pas, xss_nil, xss_cons, itK_seq, itK_rng1, itK_rng2, itK_rng3, itK_enm, itK_zip, bind_ok, bind_bad, of_ok, fbind_nx, fbind_rt, fbind_bk, fbind_ct, ofO_some, ofS_some, cnt_v, cnt_o, cnt_b, cntS_eq, frz_v, frz_o, frz_b, fr_no, fr_sh, fr_ow, fr_le, fr_lf, fr_lk, putS_fr, mutS_eq, SZ, idxV, slcV, metV, mokV, mok, inS, isiV, joiV, idxR, ixN_nat, ixN_num, binR, addR, mulR, intR, cmpR, D.tr, CM, opd, slcR, bltR, metR, hand, lent, dist, back, cnts, asgT, asgTs, D.eqv, eqvL, D.pl, plL, D.dep, depL, lockO, itemsOf, unlock, freeS, wipeS, restS, D.flat, h49, h48, b1, b2]
theorem mk1_le (f z c : Nat) : (mk1 (f, z) c).1 ≤ f + 1 ∧ (mk1 (f, z) c).2 ≤ z + 1 := by
  have e1 : (mk1 (f, z) c).1 = if c = 49 ∧ 11 ≤ z then f + 1 else f := rfl
  have e2 : (mk1 (f, z) c).2 = if c = 48 then z + 1 else 0 := rfl
  rw [e1, e2]
  constructor
  · split <;> omega
  · split <;> omega
theorem marks_run (cf : Nat → List Slot → Co) (w : List Nat) (hw : w.length ≤ 500000) : runDf ⟨1, 4, marksBody⟩ cf [.sh (.str w)] = .ok (.v (nt (w.foldl mk1 (0, 0)).1)) [.sh (.str w)] := by
  obtain ⟨s', ⟨x3, f3, _, hs'⟩, h⟩ := forL_all (t := .var 3) (lk := []) (items := w.map ch) (fb := xss cf marksB) (s := ⟨[.sh (.str w), .sh (nt 0), .sh (nt 0), .no]⟩)
    (fun k s => ∃ x3, fr x3 = true ∧ (k ≤ w.length → ((w.take k).foldl mk1 (0, 0)).1 ≤ k ∧ ((w.take k).foldl mk1 (0, 0)).2 ≤ k) ∧ s = ⟨[.sh (.str w), .sh (nt ((w.take k).foldl mk1 (0, 0)).1), .sh (nt ((w.take k).foldl mk1 (0, 0)).2), x3]⟩) ⟨.no, rfl, fun _ => ⟨Nat.le_refl _, Nat.le_refl _⟩, rfl⟩ (fun k d s hd ⟨x3, f3, hb, e⟩ => by
      subst e
      rw [List.getElem?_map] at hd
      obtain ⟨c, hc1, hc2⟩ := Option.map_eq_some_iff.mp hd
      subst hc2
      obtain ⟨hk, hc3⟩ := List.getElem?_eq_some_iff.mp hc1
      obtain ⟨b1, b2⟩ := hb (by omega)
      have e1 : (w.take (k + 1)).foldl mk1 (0, 0) = mk1 ((w.take k).foldl mk1 (0, 0)) c := by
        rw [List.take_succ_eq_append_getElem hk, List.foldl_append, hc3]; rfl
      have hm := mk1_le ((w.take k).foldl mk1 (0, 0)).1 ((w.take k).foldl mk1 (0, 0)).2 c
      have hm : (mk1 ((w.take k).foldl mk1 (0, 0)) c).1 ≤ ((w.take k).foldl mk1 (0, 0)).1 + 1 ∧ (mk1 ((w.take k).foldl mk1 (0, 0)) c).2 ≤ ((w.take k).foldl mk1 (0, 0)).2 + 1 := hm
      refine ⟨_, _, putS_at (x := x3) rfl f3, .inl (marks_step cf _ _ _ c (by omega) (by omega)), .sh (ch c), rfl, fun _ => ?_, ?_⟩
      · rw [e1]; exact ⟨by omega, by omega⟩
      · rw [e1])
  rw [List.length_map, List.take_length] at hs'
  subst hs'
  have hit : evI .seq (evs cf (.cons (.var 0) .nil)) ⟨[.sh (.str w), .sh (nt 0), .sh (nt 0), .no]⟩ = .ok (w.map ch, []) ⟨[.sh (.str w), .sh (nt 0), .sh (nt 0), .no]⟩ := rfl
  exact run_v (s := ⟨[.sh (.str w), .sh (nt (w.foldl mk1 (0, 0)).1), .sh (nt (w.foldl mk1 (0, 0)).2), x3]⟩) ⟨rfl, (show 1 ≤ 4 from by decide)⟩ (xss_go (s1 := ⟨[.sh (.str w), .sh (nt 0), .no, .no]⟩) rfl (xss_go (s1 := ⟨[.sh (.str w), .sh (nt 0), .sh (nt 0), .no]⟩) rfl (xss_go (for_in hit h) rfl))) rfl rfl
theorem cmp_go {cf : Nat → List Slot → Co} {o : COp} {a b : Ex} {s s1 s2 : S} {ra rb : Rv} {d e : D} {k : Bool} (h1 : ev cf a s = .ok ra s1) (h2 : ev cf b s1 = .ok rb s2) (h3 : cnt s2 ra = some d) (h4 : cnt s2 rb = some e) (h5 : cmpR o d e = some k) : ev cf (.cmp o a b) s = .ok (.v (.bl k)) s2 := by
  show toV (eCmpB o (ev cf a) (ev cf b)) s = _
  unfold toV eCmpB
  rw [h1, bind_ok, h2, bind_ok, h3, h4]
  show (ofO (cmpR o d e) s2).bind _ = _
  rw [h5]; rfl
theorem tst_v {cf : Nat → List Slot → Co} {a : Ex} {s s1 : S} {b : Bool} (h : ev cf a s = .ok (.v (.bl b)) s1) : tst (ev cf a) s = .ok b s1 := by
  unfold tst
  rw [h]; rfl
end Z

/-! Z: bits cut behind their marks. -/
namespace Z
def cutG : Nat → List Nat → List Nat → List (List Nat)
  | _, cur, [] => [cur]
  | z, cur, c :: w => if c = 49 then (if 11 ≤ z then (cur ++ [c]) :: cutG 0 [] w else cutG 0 (cur ++ [c]) w) else cutG (z + 1) (cur ++ [c]) w
theorem cutG_cons (z c : Nat) (cur w : List Nat) : cutG z cur (c :: w) = if c = 49 then (if 11 ≤ z then (cur ++ [c]) :: cutG 0 [] w else cutG 0 (cur ++ [c]) w) else cutG (z + 1) (cur ++ [c]) w := rfl
theorem cut_run0 : ∀ (w : List Nat) (z z' : Nat) (cur r : List Nat), z < 10 → run0 z w = some z' → cutG z cur (w ++ r) = cutG z' (cur ++ w) r
  | [], z, z', cur, r, _, h => by cases h; rw [List.append_nil]; rfl
  | c :: w, z, z', cur, r, hz, h => by
    rw [run0_cons] at h
    rw [List.cons_append, cutG_cons]
    have e : cur ++ c :: w = (cur ++ [c]) ++ w := by simp
    split at h
    · rename_i hc
      rw [if_pos hc, if_neg (by omega), cut_run0 w 0 z' (cur ++ [c]) r (by decide) h, e]
    · rename_i hc
      split at h
      · rename_i h2
        rw [if_neg hc, cut_run0 w (z + 1) z' (cur ++ [c]) r h2.2 h, e]
      · cases h
theorem cut_zeros : ∀ (n z : Nat) (cur r : List Nat), cutG z cur (List.replicate n 48 ++ r) = cutG (z + n) (cur ++ List.replicate n 48) r
  | 0, z, cur, r => by simp
  | n + 1, z, cur, r => by
    rw [List.replicate_succ, List.cons_append, cutG_cons, if_neg (by decide), cut_zeros n (z + 1)]
    congr 1
    · omega
    · simp
theorem cut_MARK (z : Nat) (cur r : List Nat) : cutG z cur (MARK ++ r) = (cur ++ MARK) :: cutG 0 [] r := by
  show cutG z cur ((List.replicate 11 48 ++ [49]) ++ r) = _
  rw [List.append_assoc, cut_zeros]
  show cutG (z + 11) _ (49 :: r) = _
  rw [cutG_cons, if_pos rfl, if_pos (by omega), List.append_assoc]; rfl
def tailP : List (List Nat) := List.replicate 5 (49 :: MARK) ++ [[49]]
theorem cut_last (z : Nat) (cur : List Nat) : cutG z cur LASTS = (cur ++ MARK) :: tailP := by
  have e6 : LASTS = MARK ++ (49 :: (MARK ++ (49 :: (MARK ++ (49 :: (MARK ++ (49 :: (MARK ++ (49 :: (MARK ++ [49])))))))))) := rfl
  have one : ∀ r, cutG 0 [] (49 :: (MARK ++ r)) = (49 :: MARK) :: cutG 0 [] r := fun r => by
    rw [cutG_cons, if_pos rfl, if_neg (by decide), cut_MARK]; rfl
  rw [e6, cut_MARK, one, one, one, one, one]; rfl
theorem cut_tags : ∀ (ts : List (List Nat)) (z : Nat) (cur : List Nat), (∀ t ∈ ts, ∃ z', z' ≤ 4 ∧ run0 0 t = some z') →
    cutG z cur ((ts.map (MARK ++ ·)).flatten ++ LASTS) = (match ts with | [] => (cur ++ MARK) :: tailP | _ => (cur ++ MARK) :: (ts.map (· ++ MARK) ++ tailP))
  | [], z, cur, _ => cut_last z cur
  | t :: ts, z, cur, h => by
    obtain ⟨z1, h1, h2⟩ := h t (List.mem_cons_self ..)
    rw [List.map_cons, List.flatten_cons, List.append_assoc, List.append_assoc, cut_MARK, cut_run0 t 0 z1 _ _ (by decide) h2, cut_tags ts z1 _ fun x hx => h x (List.mem_cons_of_mem _ hx)]
    cases ts <;> simp
theorem rowF_zero (rows : List (List Nat)) (e i : Nat) : rowF rows e 0 i = MARK ++ tagF rows e i := by
  unfold rowF
  rw [Nat.zero_sub]; simp
def tagsF (rows : List (List Nat)) (e : Nat) : List (List Nat) := (List.range rows.length).map (tagF rows e)
theorem page0 (rows : List (List Nat)) (e : Nat) : pageF rows e 0 = ((tagsF rows e).map (MARK ++ ·)).flatten ++ LASTS := by
  unfold pageF bodyF tagsF
  rw [List.map_map]
  congr 2
  exact List.map_congr_left fun i _ => rowF_zero rows e i
def piecesF (rows : List (List Nat)) (e : Nat) : List (List Nat) := MARK :: ((tagsF rows e).map (· ++ MARK) ++ tailP)
theorem cut_page (rows : List (List Nat)) (e : Nat) : cutG 0 [] (pageF rows e 0) = piecesF rows e := by
  rw [page0, cut_tags _ 0 [] fun t ht => by
    obtain ⟨i, _, rfl⟩ := List.mem_map.mp ht
    exact run0_tag rows e i]
  unfold piecesF
  cases tagsF rows e <;> rfl
theorem pieces_len (rows : List (List Nat)) (e : Nat) : (piecesF rows e).length = rows.length + 7 := by
  unfold piecesF tagsF
  simp [tailP]
/-! filled up -/
def fillP (le : Nat) (p : List Nat) : List Nat := p.take (p.length - 12) ++ List.replicate (le - p.length) 48 ++ p.drop (p.length - 12)
theorem MARK_len : MARK.length = 12 := rfl
theorem fillP_tag (le : Nat) (t : List Nat) : fillP le (t ++ MARK) = t ++ List.replicate (le - (MARK ++ t).length) 48 ++ MARK := by
  unfold fillP
  have e : (t ++ MARK).length - 12 = t.length := by rw [List.length_append, MARK_len]; omega
  have e2 : le - (t ++ MARK).length = le - (MARK ++ t).length := by rw [List.length_append, List.length_append]; omega
  rw [e, e2, List.take_left, List.drop_left]
theorem filled_tags (le : Nat) : ∀ ts : List (List Nat), MARK ++ (((ts.map (· ++ MARK)).map (fillP le)) ++ tailP).flatten = (ts.map fun t => (MARK ++ t) ++ List.replicate (le - (MARK ++ t).length) 48).flatten ++ LASTS
  | [] => rfl
  | t :: ts => by
    rw [List.map_cons, List.map_cons, List.map_cons, List.cons_append, List.flatten_cons, List.flatten_cons, fillP_tag, List.append_assoc _ _ LASTS, ← filled_tags le ts]
    simp only [List.append_assoc]
def restF (rows : List (List Nat)) (e le : Nat) : List (List Nat) := ((tagsF rows e).map (· ++ MARK)).map (fillP le) ++ tailP
theorem filled_page (rows : List (List Nat)) (e le : Nat) : MARK ++ (restF rows e le).flatten = pageF rows e le := by
  unfold restF
  rw [filled_tags]
  unfold pageF bodyF tagsF
  rw [List.map_map]; rfl
theorem cut_fm {α : Type} (xs : List α) (k : Nat) (hk : 0 < k) : cut xs (some (-(k : Int))) none = xs.drop (xs.length - k) ∧ cut xs none (some (-(k : Int))) = xs.take (xs.length - k) := by
  unfold cut
  have e : sx xs.length 0 (some (-(k : Int))) = xs.length - k ∧ sx xs.length xs.length (some (-(k : Int))) = xs.length - k := by
    have h : (-(k : Int)) < 0 := by omega
    constructor
    · show (if (-(k : Int)) < 0 then ((-(k : Int)) + (xs.length : Int)).toNat else _) = _
      rw [if_pos h]; omega
    · show (if (-(k : Int)) < 0 then ((-(k : Int)) + (xs.length : Int)).toNat else _) = _
      rw [if_pos h]; omega
  rw [e.1, e.2]
  constructor
  · show (xs.drop (xs.length - k)).take (xs.length - (xs.length - k)) = _
    rw [List.take_of_length_le (by simp)]
  · show (xs.drop 0).take (xs.length - k - 0) = _
    rw [List.drop_zero, Nat.sub_zero]
/-! the law's cut -/
def cutB : Ss := (.cons (.iff (.cmp .eq (.idx (.var 0) (.var 4)) (.cst (.str [49]))) (.cons (.iff (.cmp .ge (.var 3) (.cst (.int 11))) (.cons (.exp (.met .append (.var 1) (.cons (.slc (.var 0) (.so (.var 2)) (.so (.bin .add (.var 4) (.cst (.int 1))))) .nil)))
  (.cons (.asg (.var 2) (.bin .add (.var 4) (.cst (.int 1))))
  .nil)) .nil)
  (.cons (.asg (.var 3) (.cst (.int 0)))
  .nil)) (.cons (.asg (.var 3) (.bin .add (.var 3) (.cst (.int 1))))
  .nil))
  .nil)
def cutBody : Ss :=
  (.cons (.asg (.var 1) (.lst .nil))
  (.cons (.asg (.var 2) (.cst (.int 0)))
  (.cons (.asg (.var 3) (.cst (.int 0)))
  (.cons (.fors (.var 4) .rng1 (.cons (.blt .len (.cons (.var 0) .nil)) .nil) cutB)
  (.cons (.ret (.bin .add (.var 1) (.lst (.cons (.slc (.var 0) (.so (.var 2)) .no) .nil))))
  .nil)))))
theorem cut_step (cf : Nat → List Slot → Co) (w : List Nat) (hw : w.length ≤ 500000) (f : List D) (hf : f.length ≤ 600000) (b z k c : Nat) (hz : z ≤ 600000) (hk : k < w.length) (hc : w[k]? = some c) :
    xss cf cutB ⟨[.sh (.str w), .ow f, .sh (nt b), .sh (nt z), .sh (nt k)]⟩ = .nx (if c = 49 then (if 11 ≤ z then ⟨[.sh (.str w), .ow (f ++ [.str ((w.drop b).take (k + 1 - b))]), .sh (nt (k + 1)), .sh (nt 0), .sh (nt k)]⟩ else ⟨[.sh (.str w), .ow f, .sh (nt b), .sh (nt 0), .sh (nt k)]⟩) else ⟨[.sh (.str w), .ow f, .sh (nt b), .sh (nt (z + 1)), .sh (nt k)]⟩) := by
  have z1 : w.length ≤ 16777216 := by omega
  have z2 : f.length < 16777216 := by omega
  have e1 : cut w (some (b : Int)) (some ((k : Int) + 1)) = (w.drop b).take (k + 1 - b) := cut_both w b (k + 1)
  have hc2 : w[k] = c := by rw [List.getElem?_eq_getElem hk] at hc; exact Option.some.inj hc
  clear hc
  unfold cutB
  by_cases h49 : c = 49
  · subst h49
    rw [if_pos rfl]
    by_cases h11 : 11 ≤ z
    · rw [if_pos h11]
      have h11' : (11 : Int) ≤ (z : Int) := by omega
      simp [op2_some, ev_cst, ev_var, ev_bin, ev_neg, ev_not, ev_and, ev_or, ev_cmp, ev_chn, ev_isN, ev_notN, ev_ife, ev_tup, ev_lst, ev_idx, ev_slc, ev_call, ev_blt, ev_met, ev_joi, ev_lc, ev_isi, tst_eq, evI_eq, evs_nil, evs_cons, evF_nil, evF_cons, evo_no, evo_so, xs_asg, xs_asgT, xs_par, xs_sub, xs_exp, xs_ret, xs_retN, xs_if, xs_for, xs_whl, xs_brk, xs_rse, xs_cnt, xs_pas, xss_nil, xss_cons, itK_seq, itK_rng1, itK_rng2, itK_rng3, itK_enm, itK_zip, bind_ok, bind_bad, of_ok, fbind_nx, fbind_rt, fbind_bk, fbind_ct, ofO_some, ofS_some, cnt_v, cnt_o, cnt_b, cntS_eq, frz_v, frz_o, frz_b, fr_no, fr_sh, fr_ow, fr_le, fr_lf, fr_lk, putS_fr, mutS_eq, SZ, idxV, slcV, metV, mokV, mok, inS, isiV, joiV, idxR, ixN_nat, ixN_num, binR, addR, mulR, intR, cmpR, D.tr, CM, opd, slcR, bltR, metR, hand, lent, dist, back, cnts, asgT, asgTs, D.eqv, eqvL, D.pl, plL, D.dep, depL, lockO, itemsOf, unlock, freeS, wipeS, restS, D.flat, ixN_nat, hk, hc2, z1, z2, e1, h11, h11']
    · rw [if_neg h11]
      have h11' : ¬ (11 : Int) ≤ (z : Int) := by omega
      simp [op2_some, ev_cst, ev_var, ev_bin, ev_neg, ev_not, ev_and, ev_or, ev_cmp, ev_chn, ev_isN, ev_notN, ev_ife, ev_tup, ev_lst, ev_idx, ev_slc, ev_call, ev_blt, ev_met, ev_joi, ev_lc, ev_isi, tst_eq, evI_eq, evs_nil, evs_cons, evF_nil, evF_cons, evo_no, evo_so, xs_asg, xs_asgT, xs_par, xs_sub, xs_exp, xs_ret, xs_retN, xs_if, xs_for, xs_whl, xs_brk, xs_rse, xs_cnt, xs_pas, xss_nil, xss_cons, itK_seq, itK_rng1, itK_rng2, itK_rng3, itK_enm, itK_zip, bind_ok, bind_bad, of_ok, fbind_nx, fbind_rt, fbind_bk, fbind_ct, ofO_some, ofS_some, cnt_v, cnt_o, cnt_b, cntS_eq, frz_v, frz_o, frz_b, fr_no, fr_sh, fr_ow, fr_le, fr_lf, fr_lk, putS_fr, mutS_eq, SZ, idxV, slcV, metV, mokV, mok, inS, isiV, joiV, idxR, ixN_nat, ixN_num, binR, addR, mulR, intR, cmpR, D.tr, CM, opd, slcR, bltR, metR, hand, lent, dist, back, cnts, asgT, asgTs, D.eqv, eqvL, D.pl, plL, D.dep, depL, lockO, itemsOf, unlock, freeS, wipeS, restS, D.flat, ixN_nat, hk, hc2, z1, z2, h11, h11']
  · rw [if_neg h49]
    simp [op2_some, ev_cst, ev_var, ev_bin, ev_neg, ev_not, ev_and, ev_or, ev_cmp, ev_chn, ev_isN, ev_notN, ev_ife, ev_tup, ev_lst, ev_idx, ev_slc, ev_call, ev_blt, ev_met, ev_joi, ev_lc, ev_isi, tst_eq, evI_eq, evs_nil, evs_cons, evF_nil, evF_cons, evo_no, evo_so, xs_asg, xs_asgT, xs_par, xs_sub, xs_exp, xs_ret, xs_retN, xs_if, xs_for, xs_whl, xs_brk, xs_rse, xs_cnt, xs_pas, xss_nil, xss_cons, itK_seq, itK_rng1, itK_rng2, itK_rng3, itK_enm, itK_zip, bind_ok, bind_bad, of_ok, fbind_nx, fbind_rt, fbind_bk, fbind_ct, ofO_some, ofS_some, cnt_v, cnt_o, cnt_b, cntS_eq, frz_v, frz_o, frz_b, fr_no, fr_sh, fr_ow, fr_le, fr_lf, fr_lk, putS_fr, mutS_eq, SZ, idxV, slcV, metV, mokV, mok, inS, isiV, joiV, idxR, ixN_nat, ixN_num, binR, addR, mulR, intR, cmpR, D.tr, CM, opd, slcR, bltR, metR, hand, lent, dist, back, cnts, asgT, asgTs, D.eqv, eqvL, D.pl, plL, D.dep, depL, lockO, itemsOf, unlock, freeS, wipeS, restS, D.flat, ixN_nat, hk, hc2, z1, h49]
theorem cut_run (cf : Nat → List Slot → Co) (w : List Nat) (hw : w.length ≤ 500000) : runDf ⟨1, 5, cutBody⟩ cf [.sh (.str w)] = .ok (.o ((cutG 0 [] w).map .str)) [.sh (.str w)] := by
  have z1 : w.length ≤ 16777216 := by omega
  obtain ⟨s', ⟨f, b, z, x4, f4, l1, l2, l3, he, rfl⟩, h⟩ := forL_rng (t := .var 4) (lk := []) (n := w.length) (fb := xss cf cutB) (s := ⟨[.sh (.str w), .ow [], .sh (nt 0), .sh (nt 0), .no]⟩)
    (fun k s => ∃ (f : List (List Nat)) (b z : Nat) (x4 : Slot), fr x4 = true ∧ f.length ≤ k ∧ b ≤ k ∧ z ≤ k ∧ f ++ cutG z ((w.drop b).take (k - b)) (w.drop k) = cutG 0 [] w ∧ s = ⟨[.sh (.str w), .ow (f.map .str), .sh (nt b), .sh (nt z), x4]⟩)
    ⟨[], 0, 0, .no, rfl, Nat.le_refl _, Nat.le_refl _, Nat.le_refl _, rfl, rfl⟩ (fun k s hk ⟨f, b, z, x4, f4, l1, l2, l3, he, e⟩ => by
      subst e
      have hc : w[k]? = some w[k] := List.getElem?_eq_getElem hk
      have hs := cut_step cf w hw (f.map .str) (by rw [List.length_map]; omega) b z k w[k] (by omega) hk hc
      have hd : w.drop k = w[k] :: w.drop (k + 1) := List.drop_eq_getElem_cons hk
      have hcur : (w.drop b).take (k + 1 - b) = (w.drop b).take (k - b) ++ [w[k]] := by
        have : k + 1 - b = (k - b) + 1 := by omega
        rw [this, List.take_succ, List.getElem?_drop]
        rw [show b + (k - b) = k from by omega, hc]; rfl
      rw [hd, cutG_cons] at he
      by_cases h49 : w[k] = 49
      · rw [if_pos h49] at he hs
        by_cases h11 : 11 ≤ z
        · rw [if_pos h11] at he hs
          refine ⟨_, _, putS_at (x := x4) rfl f4, .inl hs, f ++ [(w.drop b).take (k + 1 - b)], k + 1, 0, .sh (nt k), rfl, by simp; omega, Nat.le_refl _, Nat.zero_le _, ?_, by simp⟩
          rw [Nat.sub_self, List.take_zero, hcur, List.append_assoc]
          exact he
        · rw [if_neg h11] at he hs
          refine ⟨_, _, putS_at (x := x4) rfl f4, .inl hs, f, b, 0, .sh (nt k), rfl, by omega, by omega, Nat.zero_le _, ?_, rfl⟩
          rw [hcur]; exact he
      · rw [if_neg h49] at he hs
        refine ⟨_, _, putS_at (x := x4) rfl f4, .inl hs, f, b, z + 1, .sh (nt k), rfl, by omega, by omega, by omega, ?_, rfl⟩
        rw [hcur]; exact he)
  have en : evs cf (.cons (.blt .len (.cons (.var 0) .nil)) .nil) ⟨[.sh (.str w), .ow [], .sh (nt 0), .sh (nt 0), .no]⟩ = .ok [.v (.int (w.length : Int))] ⟨[.sh (.str w), .ow [], .sh (nt 0), .sh (nt 0), .no]⟩ := by
    simp [op2_some, ev_cst, ev_var, ev_bin, ev_neg, ev_not, ev_and, ev_or, ev_cmp, ev_chn, ev_isN, ev_notN, ev_ife, ev_tup, ev_lst, ev_idx, ev_slc, ev_call, ev_blt, ev_met, ev_joi, ev_lc, ev_isi, tst_eq, evI_eq, evs_nil, evs_cons, evF_nil, evF_cons, evo_no, evo_so, xs_asg, xs_asgT, xs_par, xs_sub, xs_exp, xs_ret, xs_retN, xs_if, xs_for, xs_whl, xs_brk, xs_rse, xs_cnt, xs_pas, xss_nil, xss_cons, itK_seq, itK_rng1, itK_rng2, itK_rng3, itK_enm, itK_zip, bind_ok, bind_bad, of_ok, fbind_nx, fbind_rt, fbind_bk, fbind_ct, ofO_some, ofS_some, cnt_v, cnt_o, cnt_b, cntS_eq, frz_v, frz_o, frz_b, fr_no, fr_sh, fr_ow, fr_le, fr_lf, fr_lk, putS_fr, mutS_eq, SZ, idxV, slcV, metV, mokV, mok, inS, isiV, joiV, idxR, ixN_nat, ixN_num, binR, addR, mulR, intR, cmpR, D.tr, CM, opd, slcR, bltR, metR, hand, lent, dist, back, cnts, asgT, asgTs, D.eqv, eqvL, D.pl, plL, D.dep, depL, lockO, itemsOf, unlock, freeS, wipeS, restS, D.flat, z1]
  refine run_o (s := ⟨[.sh (.str w), .ow (f.map .str), .sh (nt b), .sh (nt z), x4]⟩) ⟨rfl, (show 1 ≤ 5 from by decide)⟩ (xss_go (s1 := ⟨[.sh (.str w), .ow [], .no, .no, .no]⟩) rfl (xss_go (s1 := ⟨[.sh (.str w), .ow [], .sh (nt 0), .no, .no]⟩) rfl (xss_go (s1 := ⟨[.sh (.str w), .ow [], .sh (nt 0), .sh (nt 0), .no]⟩) rfl (xss_go (for_go (rng_go en (by omega)) h) ?_)))) rfl rfl
  rw [← he, List.drop_length]
  have e2 : cut w (some (b : Int)) none = w.drop b := cut_from w b
  have e3 : (w.drop b).take (w.length - b) = w.drop b := List.take_of_length_le (by simp)
  rw [e3]
  have e4 : (f ++ cutG z (w.drop b) []).map D.str = f.map D.str ++ [.str (w.drop b)] := by rw [List.map_append]; rfl
  rw [e4]
  have z3 : (f.map D.str).length + 1 ≤ 16777216 := by rw [List.length_map]; omega
  generalize f.map D.str = F at *
  simp [op2_some, ev_cst, ev_var, ev_bin, ev_neg, ev_not, ev_and, ev_or, ev_cmp, ev_chn, ev_isN, ev_notN, ev_ife, ev_tup, ev_lst, ev_idx, ev_slc, ev_call, ev_blt, ev_met, ev_joi, ev_lc, ev_isi, tst_eq, evI_eq, evs_nil, evs_cons, evF_nil, evF_cons, evo_no, evo_so, xs_asg, xs_asgT, xs_par, xs_sub, xs_exp, xs_ret, xs_retN, xs_if, xs_for, xs_whl, xs_brk, xs_rse, xs_cnt, xs_pas, xss_nil, xss_cons, itK_seq, itK_rng1, itK_rng2, itK_rng3, itK_enm, itK_zip, bind_ok, bind_bad, of_ok, fbind_nx, fbind_rt, fbind_bk, fbind_ct, ofO_some, ofS_some, cnt_v, cnt_o, cnt_b, cntS_eq, frz_v, frz_o, frz_b, fr_no, fr_sh, fr_ow, fr_le, fr_lf, fr_lk, putS_fr, mutS_eq, SZ, idxV, slcV, metV, mokV, mok, inS, isiV, joiV, idxR, ixN_nat, ixN_num, binR, addR, mulR, intR, cmpR, D.tr, CM, opd, slcR, bltR, metR, hand, lent, dist, back, cnts, asgT, asgTs, D.eqv, eqvL, D.pl, plL, D.dep, depL, lockO, itemsOf, unlock, freeS, wipeS, restS, D.flat, z1, z3, e2]
/-! the law's filling -/
def filledB : Ss := (.cons (.asg (.var 5) (.idx (.var 0) (.var 4)))
  (.cons (.iff (.cmp .le (.var 4) (.var 1)) (.cons (.asg (.var 5) (.bin .add (.bin .add (.slc (.var 5) .no (.so (.neg (.cst (.int 12))))) (.bin .mul (.cst (.str [48])) (.blt .max2 (.cons (.cst (.int 0)) (.cons (.bin .sub (.var 2) (.blt .len (.cons (.var 5) .nil))) .nil))))) (.slc (.var 5) (.so (.neg (.cst (.int 12)))) .no)))
  .nil) .nil)
  (.cons (.asg (.var 3) (.bin .add (.var 3) (.var 5)))
  .nil)))
def filledBody : Ss :=
  (.cons (.asg (.var 3) (.idx (.var 0) (.cst (.int 0))))
  (.cons (.fors (.var 4) .rng2 (.cons (.cst (.int 1)) (.cons (.blt .len (.cons (.var 0) .nil)) .nil)) filledB)
  (.cons (.ret (.var 3))
  .nil)))
theorem filled_step (cf : Nat → List Slot → Co) (W : List (List Nat)) (n le k : Nat) (f p : List Nat) (hk : k < W.length) (hp : W.getD k [] = p) (hpl : p.length ≤ 10000) (hle : le ≤ 1000) (hf : f.length ≤ 1000000) (x5 : Slot) (f5 : fr x5 = true) : ∃ y5, fr y5 = true ∧
    xss cf filledB ⟨[.le (W.map .str), .sh (nt n), .sh (nt le), .sh (.str f), .sh (nt k), x5]⟩ = .nx ⟨[.le (W.map .str), .sh (nt n), .sh (nt le), .sh (.str (f ++ (if k ≤ n then fillP le p else p))), .sh (nt k), y5]⟩ := by
  have z1 : p.length ≤ 16777216 := by omega
  obtain ⟨s0, hs0⟩ : ∃ s0 : S, s0 = ⟨[.le (W.map .str), .sh (nt n), .sh (nt le), .sh (.str f), .sh (nt k), x5]⟩ := ⟨_, rfl⟩
  have hx : ev cf (.idx (.var 0) (.var 4)) s0 = .ok (.v (.str p)) s0 := idx_go (ra := .b 0) (rb := .v (nt k)) (by rw [hs0]; rfl) (by rw [hs0]; rfl) (by rw [hs0]; rfl) rfl (by rw [← hp]; exact idx_lstW W k hk)
  subst hs0
  have st1 : xs cf (.asg (.var 5) (.idx (.var 0) (.var 4))) ⟨[.le (W.map .str), .sh (nt n), .sh (nt le), .sh (.str f), .sh (nt k), x5]⟩ = .nx ⟨[.le (W.map .str), .sh (nt n), .sh (nt le), .sh (.str f), .sh (nt k), .sh (.str p)]⟩ := asg_v hx (x := x5) rfl f5
  have e1 : cut p (some (-12)) none = p.drop (p.length - 12) := (cut_fm p 12 (by decide)).1
  have e2 : cut p none (some (-12)) = p.take (p.length - 12) := (cut_fm p 12 (by decide)).2
  have fl : (fillP le p).length ≤ 20000 := by
    unfold fillP
    rw [List.length_append, List.length_append, List.length_replicate, List.length_take, List.length_drop]; omega
  unfold filledB
  by_cases h : k ≤ n
  · have h' : (k : Int) ≤ (n : Int) := by omega
    refine ⟨.sh (.str (fillP le p)), rfl, ?_⟩
    rw [if_pos h]
    have st2 : xs cf (.iff (.cmp .le (.var 4) (.var 1)) (.cons (.asg (.var 5) (.bin .add (.bin .add (.slc (.var 5) .no (.so (.neg (.cst (.int 12))))) (.bin .mul (.cst (.str [48])) (.blt .max2 (.cons (.cst (.int 0)) (.cons (.bin .sub (.var 2) (.blt .len (.cons (.var 5) .nil))) .nil))))) (.slc (.var 5) (.so (.neg (.cst (.int 12)))) .no)))
        .nil) .nil) ⟨[.le (W.map .str), .sh (nt n), .sh (nt le), .sh (.str f), .sh (nt k), .sh (.str p)]⟩ = .nx ⟨[.le (W.map .str), .sh (nt n), .sh (nt le), .sh (.str f), .sh (nt k), .sh (.str (fillP le p))]⟩ := by
      have hm : ev cf (.blt .max2 (.cons (.cst (.int 0)) (.cons (.bin .sub (.var 2) (.blt .len (.cons (.var 5) .nil))) .nil))) ⟨[.le (W.map .str), .sh (nt n), .sh (nt le), .sh (.str f), .sh (nt k), .sh (.str p)]⟩ = .ok (.v (nt (le - p.length))) ⟨[.le (W.map .str), .sh (nt n), .sh (nt le), .sh (.str f), .sh (nt k), .sh (.str p)]⟩ := by
        generalize W.map D.str = M at *
        by_cases hlt : p.length < le
        · have mx : (le : Int) - (p.length : Int) = ((le - p.length : Nat) : Int) := by omega
          simp [op2_some, ev_cst, ev_var, ev_bin, ev_neg, ev_not, ev_and, ev_or, ev_cmp, ev_chn, ev_isN, ev_notN, ev_ife, ev_tup, ev_lst, ev_idx, ev_slc, ev_call, ev_blt, ev_met, ev_joi, ev_lc, ev_isi, tst_eq, evI_eq, evs_nil, evs_cons, evF_nil, evF_cons, evo_no, evo_so, xs_asg, xs_asgT, xs_par, xs_sub, xs_exp, xs_ret, xs_retN, xs_if, xs_for, xs_whl, xs_brk, xs_rse, xs_cnt, xs_pas, xss_nil, xss_cons, itK_seq, itK_rng1, itK_rng2, itK_rng3, itK_enm, itK_zip, bind_ok, bind_bad, of_ok, fbind_nx, fbind_rt, fbind_bk, fbind_ct, ofO_some, ofS_some, cnt_v, cnt_o, cnt_b, cntS_eq, frz_v, frz_o, frz_b, fr_no, fr_sh, fr_ow, fr_le, fr_lf, fr_lk, putS_fr, mutS_eq, SZ, idxV, slcV, metV, mokV, mok, inS, isiV, joiV, idxR, ixN_nat, ixN_num, binR, addR, mulR, intR, cmpR, D.tr, CM, opd, slcR, bltR, metR, hand, lent, dist, back, cnts, asgT, asgTs, D.eqv, eqvL, D.pl, plL, D.dep, depL, lockO, itemsOf, unlock, freeS, wipeS, restS, D.flat, z1, hlt, mx]
          intro h0; rw [h0]; rfl
        · have mx : le - p.length = 0 := by omega
          simp [op2_some, ev_cst, ev_var, ev_bin, ev_neg, ev_not, ev_and, ev_or, ev_cmp, ev_chn, ev_isN, ev_notN, ev_ife, ev_tup, ev_lst, ev_idx, ev_slc, ev_call, ev_blt, ev_met, ev_joi, ev_lc, ev_isi, tst_eq, evI_eq, evs_nil, evs_cons, evF_nil, evF_cons, evo_no, evo_so, xs_asg, xs_asgT, xs_par, xs_sub, xs_exp, xs_ret, xs_retN, xs_if, xs_for, xs_whl, xs_brk, xs_rse, xs_cnt, xs_pas, xss_nil, xss_cons, itK_seq, itK_rng1, itK_rng2, itK_rng3, itK_enm, itK_zip, bind_ok, bind_bad, of_ok, fbind_nx, fbind_rt, fbind_bk, fbind_ct, ofO_some, ofS_some, cnt_v, cnt_o, cnt_b, cntS_eq, frz_v, frz_o, frz_b, fr_no, fr_sh, fr_ow, fr_le, fr_lf, fr_lk, putS_fr, mutS_eq, SZ, idxV, slcV, metV, mokV, mok, inS, isiV, joiV, idxR, ixN_nat, ixN_num, binR, addR, mulR, intR, cmpR, D.tr, CM, opd, slcR, bltR, metR, hand, lent, dist, back, cnts, asgT, asgTs, D.eqv, eqvL, D.pl, plL, D.dep, depL, lockO, itemsOf, unlock, freeS, wipeS, restS, D.flat, z1, hlt, mx]
      have k1 : okI ((le - p.length : Nat) : Int) = true := okI_nat (by omega)
      have y1 : (p.take (p.length - 12)).length + (le - p.length) ≤ 16777216 := by rw [List.length_take]; omega
      have y2 : (p.take (p.length - 12)).length + (le - p.length) + (p.drop (p.length - 12)).length ≤ 16777216 := by rw [List.length_take, List.length_drop]; omega
      have y3 : le - p.length ≤ 16777216 := by omega
      unfold fillP
      generalize p.take (p.length - 12) = A at *
      generalize p.drop (p.length - 12) = B at *
      generalize W.map D.str = M at *
      generalize (Ex.blt .max2 (.cons (.cst (.int 0)) (.cons (.bin .sub (.var 2) (.blt .len (.cons (.var 5) .nil))) .nil))) = E at hm ⊢
      generalize le - p.length = q at *
      have y4 : A.length + (q + B.length) ≤ 16777216 := by omega
      simp [op2_some, ev_cst, ev_var, ev_bin, ev_neg, ev_not, ev_and, ev_or, ev_cmp, ev_chn, ev_isN, ev_notN, ev_ife, ev_tup, ev_lst, ev_idx, ev_slc, ev_call, ev_blt, ev_met, ev_joi, ev_lc, ev_isi, tst_eq, evI_eq, evs_nil, evs_cons, evF_nil, evF_cons, evo_no, evo_so, xs_asg, xs_asgT, xs_par, xs_sub, xs_exp, xs_ret, xs_retN, xs_if, xs_for, xs_whl, xs_brk, xs_rse, xs_cnt, xs_pas, xss_nil, xss_cons, itK_seq, itK_rng1, itK_rng2, itK_rng3, itK_enm, itK_zip, bind_ok, bind_bad, of_ok, fbind_nx, fbind_rt, fbind_bk, fbind_ct, ofO_some, ofS_some, cnt_v, cnt_o, cnt_b, cntS_eq, frz_v, frz_o, frz_b, fr_no, fr_sh, fr_ow, fr_le, fr_lf, fr_lk, putS_fr, mutS_eq, SZ, idxV, slcV, metV, mokV, mok, inS, isiV, joiV, idxR, ixN_nat, ixN_num, binR, addR, mulR, intR, cmpR, D.tr, CM, opd, slcR, bltR, metR, hand, lent, dist, back, cnts, asgT, asgTs, D.eqv, eqvL, D.pl, plL, D.dep, depL, lockO, itemsOf, unlock, freeS, wipeS, restS, D.flat, h', hm, z1, e1, e2, k1, y1, y2, y3, y4, rep_one]
    have y5 : f.length + (fillP le p).length ≤ 16777216 := by omega
    refine xss_go st1 (xss_go st2 ?_)
    generalize fillP le p = q at *
    generalize W.map D.str = M at *
    simp [op2_some, ev_cst, ev_var, ev_bin, ev_neg, ev_not, ev_and, ev_or, ev_cmp, ev_chn, ev_isN, ev_notN, ev_ife, ev_tup, ev_lst, ev_idx, ev_slc, ev_call, ev_blt, ev_met, ev_joi, ev_lc, ev_isi, tst_eq, evI_eq, evs_nil, evs_cons, evF_nil, evF_cons, evo_no, evo_so, xs_asg, xs_asgT, xs_par, xs_sub, xs_exp, xs_ret, xs_retN, xs_if, xs_for, xs_whl, xs_brk, xs_rse, xs_cnt, xs_pas, xss_nil, xss_cons, itK_seq, itK_rng1, itK_rng2, itK_rng3, itK_enm, itK_zip, bind_ok, bind_bad, of_ok, fbind_nx, fbind_rt, fbind_bk, fbind_ct, ofO_some, ofS_some, cnt_v, cnt_o, cnt_b, cntS_eq, frz_v, frz_o, frz_b, fr_no, fr_sh, fr_ow, fr_le, fr_lf, fr_lk, putS_fr, mutS_eq, SZ, idxV, slcV, metV, mokV, mok, inS, isiV, joiV, idxR, ixN_nat, ixN_num, binR, addR, mulR, intR, cmpR, D.tr, CM, opd, slcR, bltR, metR, hand, lent, dist, back, cnts, asgT, asgTs, D.eqv, eqvL, D.pl, plL, D.dep, depL, lockO, itemsOf, unlock, freeS, wipeS, restS, D.flat, y5]
  · have h' : ¬ (k : Int) ≤ (n : Int) := by omega
    refine ⟨.sh (.str p), rfl, ?_⟩
    rw [if_neg h]
    have y5 : f.length + p.length ≤ 16777216 := by omega
    refine xss_go st1 ?_
    generalize W.map D.str = M at *
    simp [op2_some, ev_cst, ev_var, ev_bin, ev_neg, ev_not, ev_and, ev_or, ev_cmp, ev_chn, ev_isN, ev_notN, ev_ife, ev_tup, ev_lst, ev_idx, ev_slc, ev_call, ev_blt, ev_met, ev_joi, ev_lc, ev_isi, tst_eq, evI_eq, evs_nil, evs_cons, evF_nil, evF_cons, evo_no, evo_so, xs_asg, xs_asgT, xs_par, xs_sub, xs_exp, xs_ret, xs_retN, xs_if, xs_for, xs_whl, xs_brk, xs_rse, xs_cnt, xs_pas, xss_nil, xss_cons, itK_seq, itK_rng1, itK_rng2, itK_rng3, itK_enm, itK_zip, bind_ok, bind_bad, of_ok, fbind_nx, fbind_rt, fbind_bk, fbind_ct, ofO_some, ofS_some, cnt_v, cnt_o, cnt_b, cntS_eq, frz_v, frz_o, frz_b, fr_no, fr_sh, fr_ow, fr_le, fr_lf, fr_lk, putS_fr, mutS_eq, SZ, idxV, slcV, metV, mokV, mok, inS, isiV, joiV, idxR, ixN_nat, ixN_num, binR, addR, mulR, intR, cmpR, D.tr, CM, opd, slcR, bltR, metR, hand, lent, dist, back, cnts, asgT, asgTs, D.eqv, eqvL, D.pl, plL, D.dep, depL, lockO, itemsOf, unlock, freeS, wipeS, restS, D.flat, h', y5]
theorem pieces_short {b : Nat} {rows : List (List Nat)} (ok : okPage b rows) (hb : b ≤ 64) (e : Nat) : ∀ p ∈ piecesF rows e, p.length ≤ 10000 := by
  intro p hp
  rcases List.mem_cons.mp hp with rfl | hp
  · decide
  · rcases List.mem_append.mp hp with hp | hp
    · obtain ⟨t, ht, rfl⟩ := List.mem_map.mp hp
      obtain ⟨i, hi, rfl⟩ := List.mem_map.mp ht
      have := tagF_len ok hb e i (List.mem_range.mp hi)
      rw [List.length_append, MARK_len]; omega
    · have h : ∀ p ∈ tailP, p.length ≤ 10000 := by decide
      exact h p hp
theorem rest_at (rows : List (List Nat)) (e le k : Nat) (hk : k < rows.length + 6) : (restF rows e le)[k]? = some (if k + 1 ≤ rows.length then fillP le ((piecesF rows e).getD (k + 1) []) else (piecesF rows e).getD (k + 1) []) := by
  have la : ((tagsF rows e).map (· ++ MARK)).length = rows.length := by simp [tagsF]
  unfold restF piecesF
  rw [List.getD_eq_getElem?_getD, List.getElem?_cons_succ]
  generalize (tagsF rows e).map (· ++ MARK) = A at *
  by_cases h : k < rows.length
  · rw [if_pos (by omega), List.getElem?_append_left (by rw [List.length_map]; omega), List.getElem?_append_left (by omega), List.getElem?_map, List.getElem?_eq_getElem (by omega)]; rfl
  · rw [if_neg (by omega), List.getElem?_append_right (by rw [List.length_map]; omega), List.getElem?_append_right (by omega), List.length_map]
    have : k - A.length < tailP.length := by show _ < 6; omega
    rw [List.getElem?_eq_getElem this]; rfl
theorem filled_run (cf : Nat → List Slot → Co) {b : Nat} {rows : List (List Nat)} (ok : okPage b rows) (hb : b ≤ 64) (hn : rows.length ≤ 100) (e le : Nat) (hle : le ≤ 1000) :
    runDf ⟨3, 6, filledBody⟩ cf [.le ((piecesF rows e).map .str), .sh (nt rows.length), .sh (nt le)] = .ok (.v (.str (pageF rows e le))) [.le ((piecesF rows e).map .str), .sh (nt rows.length), .sh (nt le)] := by
  have hpl := pageF_len ok hb e le hle hn
  rw [← filled_page, List.length_append, MARK_len] at hpl
  have lR : (restF rows e le).length = rows.length + 6 := by simp [restF, tagsF, tailP]
  have lW := pieces_len rows e
  have tk : ∀ k, ((restF rows e le).take k).flatten.length ≤ (restF rows e le).flatten.length := fun k => by
    have := congrArg (fun l => l.flatten.length) (List.take_append_drop k (restF rows e le))
    simp only [List.flatten_append, List.length_append] at this
    omega
  obtain ⟨s0, hs0⟩ : ∃ s0 : S, s0 = ⟨[.le ((piecesF rows e).map .str), .sh (nt rows.length), .sh (nt le), .no, .no, .no]⟩ := ⟨_, rfl⟩
  have hx : ev cf (.idx (.var 0) (.cst (.int 0))) s0 = .ok (.v (.str MARK)) s0 := idx_go (ra := .b 0) (rb := .v (nt 0)) (by rw [hs0]; rfl) (by rw [hs0]; rfl) (by rw [hs0]; rfl) rfl (idx_lstW (piecesF rows e) 0 (by omega))
  subst hs0
  have st1 : xs cf (.asg (.var 3) (.idx (.var 0) (.cst (.int 0)))) ⟨[.le ((piecesF rows e).map .str), .sh (nt rows.length), .sh (nt le), .no, .no, .no]⟩ = .nx ⟨[.le ((piecesF rows e).map .str), .sh (nt rows.length), .sh (nt le), .sh (.str MARK), .no, .no]⟩ := asg_v hx (x := .no) rfl rfl
  obtain ⟨s', ⟨x4, x5, f4, f5, hs'⟩, h⟩ := forL_rng2 (t := .var 4) (lk := []) (n := rows.length + 6) (p := 1) (fb := xss cf filledB) (s := ⟨[.le ((piecesF rows e).map .str), .sh (nt rows.length), .sh (nt le), .sh (.str MARK), .no, .no]⟩)
    (fun k s => ∃ x4 x5, fr x4 = true ∧ fr x5 = true ∧ s = ⟨[.le ((piecesF rows e).map .str), .sh (nt rows.length), .sh (nt le), .sh (.str (MARK ++ ((restF rows e le).take k).flatten)), x4, x5]⟩) ⟨.no, .no, rfl, rfl, by simp⟩ (fun k s hk ⟨x4, x5, f4, f5, e'⟩ => by
      subst e'
      have hr := rest_at rows e le k hk
      have := tk k
      obtain ⟨y5, g5, hst⟩ := filled_step cf (piecesF rows e) rows.length le (1 + k) (MARK ++ ((restF rows e le).take k).flatten) _ (by omega) rfl (by
        rw [List.getD_eq_getElem?_getD, List.getElem?_eq_getElem (by omega : 1 + k < (piecesF rows e).length)]
        exact pieces_short ok hb e _ (List.getElem_mem _)) hle (by rw [List.length_append, MARK_len]; omega) x5 f5
      refine ⟨_, _, putS_at (x := x4) rfl f4, .inl hst, .sh (nt (1 + k)), y5, rfl, g5, ?_⟩
      rw [Nat.add_comm 1 k, List.take_succ, hr, List.flatten_append, List.append_assoc]
      show _ = (⟨[_, _, _, .sh (.str (MARK ++ (((restF rows e le).take k).flatten ++ [_].flatten))), _, _]⟩ : S)
      rw [List.flatten_cons, List.flatten_nil, List.append_nil])
  have en : evs cf (.cons (.cst (.int 1)) (.cons (.blt .len (.cons (.var 0) .nil)) .nil)) ⟨[.le ((piecesF rows e).map .str), .sh (nt rows.length), .sh (nt le), .sh (.str MARK), .no, .no]⟩ = .ok [.v (nt 1), .v (nt (rows.length + 7))] ⟨[.le ((piecesF rows e).map .str), .sh (nt rows.length), .sh (nt le), .sh (.str MARK), .no, .no]⟩ := by
    have : ((piecesF rows e).map D.str).length = rows.length + 7 := by rw [List.length_map]; exact lW
    generalize (piecesF rows e).map D.str = P at *
    simp [op2_some, ev_cst, ev_var, ev_bin, ev_neg, ev_not, ev_and, ev_or, ev_cmp, ev_chn, ev_isN, ev_notN, ev_ife, ev_tup, ev_lst, ev_idx, ev_slc, ev_call, ev_blt, ev_met, ev_joi, ev_lc, ev_isi, tst_eq, evI_eq, evs_nil, evs_cons, evF_nil, evF_cons, evo_no, evo_so, xs_asg, xs_asgT, xs_par, xs_sub, xs_exp, xs_ret, xs_retN, xs_if, xs_for, xs_whl, xs_brk, xs_rse, xs_cnt, xs_pas, xss_nil, xss_cons, itK_seq, itK_rng1, itK_rng2, itK_rng3, itK_enm, itK_zip, bind_ok, bind_bad, of_ok, fbind_nx, fbind_rt, fbind_bk, fbind_ct, ofO_some, ofS_some, cnt_v, cnt_o, cnt_b, cntS_eq, frz_v, frz_o, frz_b, fr_no, fr_sh, fr_ow, fr_le, fr_lf, fr_lk, putS_fr, mutS_eq, SZ, idxV, slcV, metV, mokV, mok, inS, isiV, joiV, idxR, ixN_nat, ixN_num, binR, addR, mulR, intR, cmpR, D.tr, CM, opd, slcR, bltR, metR, hand, lent, dist, back, cnts, asgT, asgTs, D.eqv, eqvL, D.pl, plL, D.dep, depL, lockO, itemsOf, unlock, freeS, wipeS, restS, D.flat, this]
  subst hs'
  have hit := rng2_go en (by decide) (by omega)
  rw [show rows.length + 7 - 1 = rows.length + 6 from rfl] at hit
  rw [← filled_page]
  rw [← lR, List.take_length, lR] at h
  exact run_v (s := ⟨[.le ((piecesF rows e).map .str), .sh (nt rows.length), .sh (nt le), .sh (.str (MARK ++ (restF rows e le).flatten)), x4, x5]⟩) ⟨rfl, (show 3 ≤ 6 from by decide)⟩ (xss_go st1 (xss_go (for_go hit h) rfl)) rfl rfl
end Z

namespace K19
open Z
def k_LIGHT : D := (.str [46])
def k_DARK : D := (.str [35])
def k_MAKER : D := (.int 16)
def k_LIGHT_WORDS : D := (.tup [(.str [48, 49, 49, 48, 48, 49]), (.str [49, 49, 49, 49]), (.str [49, 49, 49, 48]), (.str [49, 49, 48, 49]), (.str [49, 49, 48, 48]), (.str [49, 48, 49, 49]), (.str [49, 48, 48, 48, 49]), (.str [49, 48, 48, 48, 48]), (.str [48, 49, 49, 49, 49]), (.str [48, 49, 49, 49, 48]), (.str [48, 49, 49, 48, 48, 48]), (.str [48, 49, 48, 49, 49, 49]), (.str [48, 49, 48, 49, 49, 48]), (.str [48, 49, 48, 49, 48, 49]), (.str [48, 49, 48, 49, 48, 48]), (.str [48, 49, 48, 48, 49, 49]), (.str [49, 48, 49, 48]), (.str [48, 49, 49, 48, 49]), (.str [48, 49, 48, 48, 49, 48]), (.str [49, 48, 48, 49])])
def k_DARK_WORDS : D := (.tup [(.str [48, 48, 49, 49, 48, 49, 49]), (.str [49, 49]), (.str [49, 48, 49]), (.str [49, 48, 48]), (.str [48, 49, 49, 49]), (.str [48, 49, 49, 48]), (.str [48, 49, 48, 49, 49]), (.str [48, 49, 48, 49, 48]), (.str [48, 49, 48, 48, 49]), (.str [48, 49, 48, 48, 48, 49]), (.str [48, 49, 48, 48, 48, 48]), (.str [48, 48, 49, 49, 49, 49]), (.str [48, 48, 49, 49, 48, 49, 48]), (.str [48, 48, 49, 49, 48, 48, 49]), (.str [48, 48, 49, 49, 48, 48, 48]), (.str [48, 48, 49, 48, 49, 49, 49]), (.str [48, 48, 49, 49, 49, 48]), (.str [48, 48, 49, 48, 49, 49, 48]), (.str [48, 48, 49, 48, 49, 48, 49]), (.str [48, 48, 49, 48, 49, 48, 48])])
def k_STEP_WORDS : D := (.tup [(.str [49]), (.str [48, 49, 49]), (.str [48, 49, 48]), (.str [48, 48, 49]), (.str [48, 48, 48, 49, 49]), (.str [48, 48, 48, 49, 48]), (.str [48, 48, 48, 48, 49, 49]), (.str [48, 48, 48, 48, 49, 48]), (.str [48, 48, 48, 48, 48, 49])])
def k_PLAIN : D := (.int 3)
def k_PASSED : D := (.int 4)
def k_MOST_NEAR : D := (.int 3)
def k_MARK : D := (.str [48, 48, 48, 48, 48, 48, 48, 48, 48, 48, 48, 49])
def k_LAST_MARKS : D := (.int 6)
def p_other_colour : Ss :=
  (.cons (.iff (.cmp .eq (.var 0) (.cst k_LIGHT)) (.cons (.ret (.cst k_DARK))
  .nil) .nil)
  (.cons (.ret (.cst k_LIGHT))
  .nil))
def p_words_of : Ss :=
  (.cons (.iff (.cmp .eq (.var 0) (.cst k_LIGHT)) (.cons (.ret (.cst k_LIGHT_WORDS))
  .nil) .nil)
  (.cons (.ret (.cst k_DARK_WORDS))
  .nil))
def p_run_bits : Ss :=
  (.cons (.asg (.var 2) (.call 1 (.cons (.var 0) .nil)))
  (.cons (.iff (.cmp .lt (.var 1) (.cst k_MAKER)) (.cons (.ret (.idx (.var 2) (.var 1)))
  .nil) .nil)
  (.cons (.ret (.bin .add (.idx (.var 2) (.bin .add (.bin .sub (.cst k_MAKER) (.cst (.int 1))) (.bin .fdiv (.var 1) (.cst k_MAKER)))) (.idx (.var 2) (.bin .mod (.var 1) (.cst k_MAKER)))))
  .nil)))
def p_nears : Ss :=
  (.cons (.ret (.lst (.cons (.cst (.int 0)) (.cons (.cst (.int 1)) (.cons (.neg (.cst (.int 1))) (.cons (.cst .non) (.cons (.cst .non) (.cons (.cst (.int 2)) (.cons (.neg (.cst (.int 2))) (.cons (.cst (.int 3)) (.cons (.neg (.cst (.int 3))) .nil)))))))))))
  .nil)
def p_place_of : Ss :=
  (.cons (.asg (.var 3) (.met .find2 (.var 0) (.cons (.var 1) (.cons (.var 2) .nil))))
  (.cons (.iff (.cmp .lt (.var 3) (.cst (.int 0))) (.cons (.ret (.blt .len (.cons (.var 0) .nil)))
  .nil) .nil)
  (.cons (.ret (.var 3))
  .nil)))
def p_edges_behind : Ss :=
  (.cons (.asg (.var 3) (.call 0 (.cons (.var 2) .nil)))
  (.cons (.asg (.var 4) (.bin .add (.var 1) (.cst (.int 1))))
  (.cons (.iff (.and (.cmp .gt (.var 4) (.cst (.int 0))) (.cmp .eq (.idx (.var 0) (.bin .sub (.var 4) (.cst (.int 1)))) (.var 3))) (.cons (.asg (.var 4) (.call 4 (.cons (.var 0) (.cons (.var 2) (.cons (.var 4) .nil)))))
  .nil) .nil)
  (.cons (.asg (.var 5) (.call 4 (.cons (.var 0) (.cons (.var 3) (.cons (.var 4) .nil)))))
  (.cons (.ret (.tup (.cons (.var 5) (.cons (.call 4 (.cons (.var 0) (.cons (.var 2) (.cons (.var 5) .nil)))) .nil))))
  .nil)))))
def p_step_from : Ss :=
  (.cons (.asg (.var 4) (.call 4 (.cons (.var 1) (.cons (.call 0 (.cons (.var 3) .nil)) (.cons (.bin .add (.var 2) (.cst (.int 1))) .nil)))))
  (.cons (.asg (.tup (.cons (.var 5) (.cons (.var 6) .nil))) (.call 5 (.cons (.var 0) (.cons (.var 2) (.cons (.var 3) .nil)))))
  (.cons (.iff (.cmp .lt (.var 6) (.var 4)) (.cons (.ret (.tup (.cons (.tup (.cons (.cst (.str [112, 97, 115, 115, 101, 100])) .nil)) (.cons (.var 6) (.cons (.var 3) .nil)))))
  .nil) .nil)
  (.cons (.iff (.cmp .le (.blt .abs (.cons (.bin .sub (.var 4) (.var 5)) .nil)) (.cst k_MOST_NEAR)) (.cons (.ret (.tup (.cons (.tup (.cons (.cst (.str [110, 101, 97, 114])) (.cons (.bin .sub (.var 4) (.var 5)) .nil))) (.cons (.var 4) (.cons (.call 0 (.cons (.var 3) .nil)) .nil)))))
  .nil) .nil)
  (.cons (.asg (.var 7) (.call 4 (.cons (.var 1) (.cons (.var 3) (.cons (.var 4) .nil)))))
  (.cons (.ret (.tup (.cons (.tup (.cons (.cst (.str [112, 108, 97, 105, 110])) (.cons (.bin .sub (.var 4) (.blt .max2 (.cons (.var 2) (.cons (.cst (.int 0)) .nil)))) (.cons (.bin .sub (.var 7) (.var 4)) .nil)))) (.cons (.var 7) (.cons (.var 3) .nil)))))
  .nil))))))
def p_above_bits : Ss :=
  (.cons (.asg (.var 2) (.cst (.str [])))
  (.cons (.asg (.var 3) (.neg (.cst (.int 1))))
  (.cons (.asg (.var 4) (.cst k_LIGHT))
  (.cons (.whl (.cmp .lt (.var 3) (.blt .len (.cons (.var 1) .nil))) (.cons (.asg (.var 5) (.var 4))
  (.cons (.asg (.tup (.cons (.var 6) (.cons (.var 3) (.cons (.var 4) .nil)))) (.call 6 (.cons (.var 0) (.cons (.var 1) (.cons (.var 3) (.cons (.var 4) .nil))))))
  (.cons (.iff (.cmp .eq (.idx (.var 6) (.cst (.int 0))) (.cst (.str [112, 108, 97, 105, 110]))) (.cons (.asg (.var 2) (.bin .add (.bin .add (.bin .add (.var 2) (.idx (.cst k_STEP_WORDS) (.cst k_PLAIN))) (.call 2 (.cons (.var 5) (.cons (.idx (.var 6) (.cst (.int 1))) .nil)))) (.call 2 (.cons (.call 0 (.cons (.var 5) .nil)) (.cons (.idx (.var 6) (.cst (.int 2))) .nil)))))
  .nil) (.cons (.iff (.cmp .eq (.idx (.var 6) (.cst (.int 0))) (.cst (.str [112, 97, 115, 115, 101, 100]))) (.cons (.asg (.var 2) (.bin .add (.var 2) (.idx (.cst k_STEP_WORDS) (.cst k_PASSED))))
  .nil) (.cons (.asg (.var 2) (.bin .add (.var 2) (.idx (.cst k_STEP_WORDS) (.met .index (.call 3 .nil) (.cons (.idx (.var 6) (.cst (.int 1))) .nil)))))
  .nil))
  .nil))
  .nil))))
  (.cons (.ret (.var 2))
  .nil)))))
def p_runs_of : Ss :=
  (.cons (.asg (.var 1) (.lst .nil))
  (.cons (.asg (.var 2) (.cst k_LIGHT))
  (.cons (.asg (.var 3) (.cst (.int 0)))
  (.cons (.fors (.var 4) .seq (.cons (.var 0) .nil) (.cons (.iff (.cmp .ne (.var 4) (.var 2)) (.cons (.exp (.met .append (.var 1) (.cons (.var 3) .nil)))
  (.cons (.asg (.var 2) (.var 4))
  (.cons (.asg (.var 3) (.cst (.int 0)))
  .nil))) .nil)
  (.cons (.asg (.var 3) (.bin .add (.var 3) (.cst (.int 1))))
  .nil)))
  (.cons (.exp (.met .append (.var 1) (.cons (.var 3) .nil)))
  (.cons (.ret (.var 1))
  .nil))))))
def p_plain_bits : Ss :=
  (.cons (.asg (.var 1) (.cst (.str [])))
  (.cons (.asg (.var 2) (.cst k_LIGHT))
  (.cons (.fors (.var 3) .seq (.cons (.call 8 (.cons (.var 0) .nil)) .nil) (.cons (.asg (.var 1) (.bin .add (.var 1) (.call 2 (.cons (.var 2) (.cons (.var 3) .nil)))))
  (.cons (.asg (.var 2) (.call 0 (.cons (.var 2) .nil)))
  .nil)))
  (.cons (.ret (.var 1))
  .nil))))
def p_tagged_bits : Ss :=
  (.cons (.iff (.cmp .eq (.bin .mod (.var 1) (.var 2)) (.cst (.int 0))) (.cons (.ret (.bin .add (.cst (.str [49])) (.call 9 (.cons (.idx (.var 0) (.var 1)) .nil))))
  .nil) .nil)
  (.cons (.ret (.bin .add (.cst (.str [48])) (.call 7 (.cons (.idx (.var 0) (.bin .sub (.var 1) (.cst (.int 1)))) (.cons (.idx (.var 0) (.var 1)) .nil)))))
  .nil))
def p_page_bits : Ss :=
  (.cons (.asg (.var 3) (.cst (.str [])))
  (.cons (.fors (.var 4) .rng1 (.cons (.blt .len (.cons (.var 0) .nil)) .nil) (.cons (.asg (.var 5) (.bin .add (.cst k_MARK) (.call 10 (.cons (.var 0) (.cons (.var 4) (.cons (.var 1) .nil))))))
  (.cons (.asg (.var 3) (.bin .add (.bin .add (.var 3) (.var 5)) (.bin .mul (.cst (.str [48])) (.bin .sub (.var 2) (.blt .len (.cons (.var 5) .nil))))))
  .nil)))
  (.cons (.ret (.bin .add (.var 3) (.bin .mul (.bin .add (.cst k_MARK) (.cst (.str [49]))) (.cst k_LAST_MARKS))))
  .nil)))
def l_bag : Ss :=
  (.cons (.asg (.var 2) (.cst (.int 0)))
  (.cons (.iff (.cmp .lt (.var 1) (.blt .len (.cons (.var 0) .nil))) (.cons (.asg (.var 2) (.idx (.var 0) (.var 1)))
  .nil) .nil)
  (.cons (.asg (.var 3) (.cst (.int 0)))
  (.cons (.iff (.cmp .ge (.blt .abs (.cons (.var 2) .nil)) (.bin .pow (.cst (.int 10)) (.cst (.int 18)))) (.cons (.asg (.var 3) (.blt .abs (.cons (.var 2) .nil)))
  .nil) .nil)
  (.cons (.ret (.lst (.cons (.var 3) (.cons (.bin .add (.bin .add (.bin .mul (.bin .mod (.var 2) (.cst (.int 1000000007))) (.cst (.int 7))) (.bin .mul (.cst (.int 1013)) (.var 1))) (.cst (.int 5))) .nil))))
  .nil)))))
def l_draw : Ss :=
  (.cons (.iff (.cmp .gt (.idx (.var 0) (.cst (.int 0))) (.cst (.int 0))) (.cons (.asg (.var 2) (.bin .mod (.idx (.var 0) (.cst (.int 0))) (.var 1)))
  (.cons (.sub 0 (.cst (.int 0)) (.bin .fdiv (.idx (.var 0) (.cst (.int 0))) (.var 1)))
  (.cons (.ret (.var 2))
  .nil))) .nil)
  (.cons (.sub 0 (.cst (.int 1)) (.bin .mod (.bin .add (.bin .mul (.idx (.var 0) (.cst (.int 1))) (.cst (.int 69621))) (.cst (.int 1234567))) (.cst (.int 2147483647))))
  (.cons (.ret (.bin .mod (.bin .mod (.bin .pow (.bin .fdiv (.idx (.var 0) (.cst (.int 1))) (.cst (.int 16))) (.cst (.int 3))) (.cst (.int 998244353))) (.var 1)))
  .nil)))
def l_row : Ss :=
  (.cons (.asg (.var 3) (.call 13 (.cons (.var 0) (.cons (.cst (.int 4)) .nil))))
  (.cons (.asg (.var 4) (.bin .mul (.lst (.cons (.idx (.cst (.str [46, 35])) (.call 13 (.cons (.var 0) (.cons (.cst (.int 2)) .nil)))) .nil)) (.var 1)))
  (.cons (.iff (.cmp .eq (.var 3) (.cst (.int 0))) (.cons (.asg (.var 4) (.lc (.idx (.cst (.str [46, 35])) (.call 13 (.cons (.var 0) (.cons (.cst (.int 2)) .nil)))) (.var 5) .rng1 (.cons (.var 1) .nil) (.cst (.bl true)) [5]))
  .nil) .nil)
  (.cons (.iff (.cmp .eq (.var 3) (.cst (.int 1))) (.cons (.asg (.var 6) (.bin .add (.cst (.int 1)) (.call 13 (.cons (.var 0) (.cons (.var 1) .nil)))))
  (.cons (.asg (.var 7) (.call 13 (.cons (.var 0) (.cons (.cst (.int 2)) .nil))))
  (.cons (.asg (.var 8) (.cst (.int 0)))
  (.cons (.fors (.var 5) .rng1 (.cons (.var 1) .nil) (.cons (.iff (.cmp .eq (.var 8) (.cst (.int 0))) (.cons (.asg (.var 7) (.bin .sub (.cst (.int 1)) (.var 7)))
  (.cons (.asg (.var 8) (.bin .add (.cst (.int 1)) (.call 13 (.cons (.var 0) (.cons (.var 6) .nil)))))
  .nil)) .nil)
  (.cons (.sub 4 (.var 5) (.idx (.cst (.str [46, 35])) (.var 7)))
  (.cons (.asg (.var 8) (.bin .sub (.var 8) (.cst (.int 1))))
  .nil))))
  .nil)))) .nil)
  (.cons (.iff (.cmp .eq (.var 3) (.cst (.int 2))) (.cons (.asg (.var 4) (.blt .list (.cons (.var 2) .nil)))
  (.cons (.fors (.var 9) .rng1 (.cons (.cst (.int 3)) .nil) (.cons (.sub 4 (.call 13 (.cons (.var 0) (.cons (.var 1) .nil))) (.idx (.cst (.str [46, 35])) (.call 13 (.cons (.var 0) (.cons (.cst (.int 2)) .nil)))))
  .nil))
  .nil)) .nil)
  (.cons (.ret (.joi (.cst (.str [])) (.cons (.var 4) .nil)))
  .nil))))))
def l_page : Ss :=
  (.cons (.asg (.var 3) (.bin .add (.cst (.int 8)) (.call 13 (.cons (.var 0) (.cons (.bin .sub (.var 1) (.cst (.int 7))) .nil)))))
  (.cons (.asg (.var 4) (.bin .add (.cst (.int 1)) (.call 13 (.cons (.var 0) (.cons (.var 2) .nil)))))
  (.cons (.iff (.cmp .eq (.call 13 (.cons (.var 0) (.cons (.cst (.int 8)) .nil))) (.cst (.int 5))) (.cons (.par 3 4 (.var 1) (.var 2))
  .nil) .nil)
  (.cons (.asg (.var 5) (.lst (.cons (.bin .mul (.cst (.str [46])) (.var 3)) .nil)))
  (.cons (.fors (.var 6) .rng1 (.cons (.var 4) .nil) (.cons (.exp (.met .append (.var 5) (.cons (.call 14 (.cons (.var 0) (.cons (.var 3) (.cons (.idx (.var 5) (.neg (.cst (.int 1)))) .nil)))) .nil)))
  .nil))
  (.cons (.ret (.blt .tuple (.cons (.slc (.var 5) (.so (.cst (.int 1))) .no) .nil)))
  .nil))))))
def l_cut : Ss :=
  (.cons (.asg (.var 1) (.lst .nil))
  (.cons (.asg (.var 2) (.cst (.int 0)))
  (.cons (.asg (.var 3) (.cst (.int 0)))
  (.cons (.fors (.var 4) .rng1 (.cons (.blt .len (.cons (.var 0) .nil)) .nil) (.cons (.iff (.cmp .eq (.idx (.var 0) (.var 4)) (.cst (.str [49]))) (.cons (.iff (.cmp .ge (.var 3) (.cst (.int 11))) (.cons (.exp (.met .append (.var 1) (.cons (.slc (.var 0) (.so (.var 2)) (.so (.bin .add (.var 4) (.cst (.int 1))))) .nil)))
  (.cons (.asg (.var 2) (.bin .add (.var 4) (.cst (.int 1))))
  .nil)) .nil)
  (.cons (.asg (.var 3) (.cst (.int 0)))
  .nil)) (.cons (.asg (.var 3) (.bin .add (.var 3) (.cst (.int 1))))
  .nil))
  .nil))
  (.cons (.ret (.bin .add (.var 1) (.lst (.cons (.slc (.var 0) (.so (.var 2)) .no) .nil))))
  .nil)))))
def l_filled : Ss :=
  (.cons (.asg (.var 3) (.idx (.var 0) (.cst (.int 0))))
  (.cons (.fors (.var 4) .rng2 (.cons (.cst (.int 1)) (.cons (.blt .len (.cons (.var 0) .nil)) .nil)) (.cons (.asg (.var 5) (.idx (.var 0) (.var 4)))
  (.cons (.iff (.cmp .le (.var 4) (.var 1)) (.cons (.asg (.var 5) (.bin .add (.bin .add (.slc (.var 5) .no (.so (.neg (.cst (.int 12))))) (.bin .mul (.cst (.str [48])) (.blt .max2 (.cons (.cst (.int 0)) (.cons (.bin .sub (.var 2) (.blt .len (.cons (.var 5) .nil))) .nil))))) (.slc (.var 5) (.so (.neg (.cst (.int 12)))) .no)))
  .nil) .nil)
  (.cons (.asg (.var 3) (.bin .add (.var 3) (.var 5)))
  .nil))))
  (.cons (.ret (.var 3))
  .nil)))
def p_law : Ss :=
  (.cons (.fors (.var 1) .rng1 (.cons (.blt .max2 (.cons (.cst (.int 2)) (.cons (.blt .min2 (.cons (.cst (.int 5)) (.cons (.blt .len (.cons (.var 0) .nil)) .nil))) .nil))) .nil) (.cons (.asg (.var 2) (.call 12 (.cons (.var 0) (.cons (.var 1) .nil))))
  (.cons (.asg (.var 3) (.call 15 (.cons (.var 2) (.cons (.cst (.int 40)) (.cons (.cst (.int 24)) .nil)))))
  (.cons (.asg (.var 4) (.idx (.lst (.cons (.cst (.int 1)) (.cons (.cst (.int 2)) (.cons (.cst (.int 4)) .nil)))) (.call 13 (.cons (.var 2) (.cons (.cst (.int 3)) .nil)))))
  (.cons (.asg (.var 5) (.call 16 (.cons (.call 11 (.cons (.var 3) (.cons (.var 4) (.cons (.cst (.int 0)) .nil)))) .nil)))
  (.cons (.iff (.or (.cmp .ne (.blt .len (.cons (.var 5) .nil)) (.bin .add (.blt .len (.cons (.var 3) .nil)) (.cst (.int 7)))) (.or (.cmp .ne (.idx (.var 5) (.cst (.int 0))) (.bin .add (.bin .mul (.cst (.str [48])) (.cst (.int 11))) (.cst (.str [49])))) (.cmp .ne (.idx (.var 5) (.neg (.cst (.int 1)))) (.cst (.str [49]))))) (.cons (.ret (.cst (.bl false)))
  .nil) .nil)
  (.cons (.fors (.var 6) .seq (.cons (.lst (.cons (.cst (.int 0)) (.cons (.cst (.int 240)) (.cons (.call 13 (.cons (.var 2) (.cons (.cst (.int 241)) .nil))) (.cons (.call 13 (.cons (.var 2) (.cons (.cst (.int 60)) .nil))) .nil))))) .nil) (.cons (.iff (.cmp .ne (.call 11 (.cons (.var 3) (.cons (.var 4) (.cons (.var 6) .nil)))) (.call 17 (.cons (.var 5) (.cons (.blt .len (.cons (.var 3) .nil)) (.cons (.var 6) .nil))))) (.cons (.ret (.cst (.bl false)))
  .nil) .nil)
  .nil))
  .nil)))))))
  (.cons (.ret (.cst (.bl true)))
  .nil))
def prog : List Df := [⟨1, 1, p_other_colour⟩, ⟨1, 1, p_words_of⟩, ⟨2, 3, p_run_bits⟩, ⟨0, 0, p_nears⟩, ⟨3, 4, p_place_of⟩, ⟨3, 6, p_edges_behind⟩, ⟨4, 8, p_step_from⟩, ⟨2, 7, p_above_bits⟩, ⟨1, 5, p_runs_of⟩, ⟨1, 4, p_plain_bits⟩, ⟨3, 3, p_tagged_bits⟩, ⟨3, 6, p_page_bits⟩, ⟨2, 4, l_bag⟩, ⟨2, 3, l_draw⟩, ⟨3, 10, l_row⟩, ⟨3, 7, l_page⟩, ⟨1, 5, l_cut⟩, ⟨3, 6, l_filled⟩, ⟨1, 7, p_law⟩]
-- 0 other_colour stmt 3 slots 0:colour
-- 1 words_of stmt 8 slots 0:cell
-- 2 run_bits stmt 9 slots 0:cell 1:run 2:words
-- 3 nears stmt 15 slots 
-- 4 place_of stmt 16 slots 0:row 1:cell 2:begin 3:found
-- 5 edges_behind stmt 17 slots 0:above 1:place 2:colour 3:other 4:begin 5:far
-- 6 step_from stmt 18 slots 0:above 1:row 2:place 3:colour 4:own 5:far 6:back 7:end
-- 7 above_bits stmt 19 slots 0:above 1:row 2:found 3:place 4:colour 5:was 6:step
-- 8 runs_of stmt 21 slots 0:row 1:found 2:colour 3:many 4:cell
-- 9 plain_bits stmt 22 slots 0:row 1:found 2:colour 3:run
-- 10 tagged_bits stmt 26 slots 0:page 1:number 2:every
-- 11 page_bits stmt 27 slots 0:page 1:every 2:least 3:found 4:number 5:bits
-- 12 _law_bag stmt 29 slots 0:_law_script 1:_law_at 2:_law_cell 3:_law_great
-- 13 _law_draw stmt 30 slots 0:_law_bag_here 1:_law_many 2:_law_digit
-- 14 _law_row stmt 31 slots 0:_law_bag_here 1:_law_breadth 2:_law_above 3:_law_way 4:_law_row_here 5:_law_place 6:_law_most 7:_law_colour 8:_law_left 9:_law_turn
-- 15 _law_page stmt 32 slots 0:_law_bag_here 1:_law_most_cells 2:_law_most_rows 3:_law_breadth 4:_law_many 5:_law_rows 6:_law_k
-- 16 _law_cut stmt 33 slots 0:_law_bits 1:_law_found 2:_law_begin 3:_law_noughts 4:_law_place
-- 17 _law_filled stmt 34 slots 0:_law_cut_here 1:_law_many 2:_law_least 3:_law_found 4:_law_k 5:_law_part
-- 18 law stmt 35 slots 0:_law_script 1:_law_k 2:_law_bag_here 3:_law_page_here 4:_law_every 5:_law_cut_here 6:_law_least
end K19
namespace K19
open Z
theorem hdraw (n : Nat) : Draws (call prog (n + 1)) 13 := fun g m h1 h2 => by
  rw [call_df (d := ⟨2, 3, l_draw⟩) rfl]
  exact draw_run _ g m h1 h2
theorem hbag (n : Nat) (ns : List Int) (k : Nat) : call prog (n + 1) 12 [.sh (.scr ns), .sh (.int (k : Int))] = .ok (.o (bg (bagOf ns k))) [.sh (.scr ns), .sh (.int (k : Int))] := by
  rw [call_df (d := ⟨2, 4, l_bag⟩) rfl]
  exact bag_run _ ns k
theorem hrow (n : Nat) : Rows (call prog (n + 2)) 14 := fun b above g hb1 hb2 ha hA => by
  rw [call_df (d := ⟨3, 10, l_row⟩) rfl]
  exact row_run (hdraw n) hb1 hb2 ha hA g
theorem hpage (n : Nat) (mc mr : Nat) (h1 : 8 ≤ mc) (h2 : mc ≤ 1000) (h3 : 1 ≤ mr) (h4 : mr ≤ 900) (g : Int × Int) : ∃ (b : Nat) (rows : List (List Nat)) (g' : Int × Int), 8 ≤ b ∧ b ≤ mc ∧ 1 ≤ rows.length ∧ rows.length ≤ mr ∧ okPage b rows ∧
    call prog (n + 3) 15 [.le (bg g), .sh (nt mc), .sh (nt mr)] = .ok (.v (.tup (rows.map .str))) [.le (bg g'), .sh (nt mc), .sh (nt mr)] := by
  rw [call_df (d := ⟨3, 7, l_page⟩) rfl]
  exact page_run (hdraw (n + 1)) (hrow n) mc mr h1 h2 h3 h4 g
theorem hother (n : Nat) : Others (call prog (n + 1)) 0 := fun c => by
  rw [call_df (d := ⟨1, 1, p_other_colour⟩) rfl]; exact other_run _ c
theorem hplace (n : Nat) : Places (call prog (n + 1)) 4 := fun row c b h1 h2 => by
  rw [call_df (d := ⟨3, 4, p_place_of⟩) rfl]; exact place_run _ row h1 c b h2
theorem hedges (n : Nat) : Edges (call prog (n + 2)) 5 := fun above p q c h1 h2 h3 h4 h5 h6 => by
  rw [call_df (d := ⟨3, 6, p_edges_behind⟩) rfl]; exact edges_run (hother n) (hplace n) above h1 h2 p q h3 h4 c h5 h6
theorem hstep (n : Nat) : Steps (call prog (n + 3)) 6 := fun above row p q c h1 h2 h3 h4 h5 h6 h7 => by
  rw [call_df (d := ⟨4, 8, p_step_from⟩) rfl]; exact step_run (hplace (n + 1)) (hother (n + 1)) (hedges n) above row h1 h2 h3 p q h4 h5 c h6 h7
theorem hbits (n : Nat) : RunBits (call prog (n + 2)) 2 := fun c r hr => by
  rw [call_df (d := ⟨2, 3, p_run_bits⟩) rfl]
  refine runBits_run (wi := 1) c ?_ r hr
  rw [call_df (d := ⟨1, 1, p_words_of⟩) rfl]
  exact wordsOf_run _ c
theorem hnears (n : Nat) : Nears (call prog (n + 1)) 3 := by
  unfold Nears
  rw [call_df (d := ⟨0, 0, p_nears⟩) rfl]; rfl
theorem habits (n : Nat) (above row : List Nat) (h1 : above.length = row.length) (h2 : row.length ≤ 64) (h3 : Sg above) : call prog (n + 4) 7 [.sh (.str above), .sh (.str row)] = .ok (.v (.str (aboveF above row))) [.sh (.str above), .sh (.str row)] := by
  rw [call_df (d := ⟨2, 7, p_above_bits⟩) rfl]
  exact abits_run (rb := 2) (ot := 0) (ne := 3) (sf := 6) (hbits (n + 1)) (hother (n + 2)) (hnears (n + 2)) (hstep n) above row h1 h2 h3
theorem hruns (n : Nat) (row : List Nat) (hl : row.length < 1000000) : call prog (n + 1) 8 [.sh (.str row)] = .ok (.o ((runsG 46 0 row).map nt)) [.sh (.str row)] := by
  rw [call_df (d := ⟨1, 5, p_runs_of⟩) rfl]
  exact runs_run _ row hl
theorem hplain (n : Nat) (row : List Nat) (hl : row.length ≤ 64) : call prog (n + 3) 9 [.sh (.str row)] = .ok (.v (.str (plainF row))) [.sh (.str row)] := by
  rw [call_df (d := ⟨1, 4, p_plain_bits⟩) rfl]
  exact plain_run (hbits n) (hother (n + 1)) row hl (hruns (n + 1) row (by omega))
theorem htag (n : Nat) : Tags (call prog (n + 5)) 10 := fun b rows e i ok hb he hi => by
  rw [call_df (d := ⟨3, 3, p_tagged_bits⟩) rfl]
  exact tag_run (fun row h => hplain (n + 1) row h) (fun above row h1 h2 h3 => habits n above row h1 h2 h3) ok hb e i he hi
theorem hpbits (n : Nat) {b : Nat} {rows : List (List Nat)} (ok : okPage b rows) (hb : b ≤ 64) (hn : rows.length ≤ 100) (e le : Nat) (he : 1 ≤ e) (hle : le ≤ 1000) :
    call prog (n + 6) 11 [.sh (pgD rows), .sh (nt e), .sh (nt le)] = .ok (.v (.str (pageF rows e le))) [.sh (pgD rows), .sh (nt e), .sh (nt le)] := by
  rw [call_df (d := ⟨3, 6, p_page_bits⟩) rfl]
  exact pb_run (htag n) ok hb hn e le he hle
theorem hcut (n : Nat) (w : List Nat) (hw : w.length ≤ 500000) : call prog (n + 1) 16 [.sh (.str w)] = .ok (.o ((cutG 0 [] w).map .str)) [.sh (.str w)] := by
  rw [call_df (d := ⟨1, 5, l_cut⟩) rfl]
  exact cut_run _ w hw
theorem hfilled (n : Nat) {b : Nat} {rows : List (List Nat)} (ok : okPage b rows) (hb : b ≤ 64) (hn : rows.length ≤ 100) (e le : Nat) (hle : le ≤ 1000) :
    call prog (n + 1) 17 [.le ((piecesF rows e).map .str), .sh (nt rows.length), .sh (nt le)] = .ok (.v (.str (pageF rows e le))) [.le ((piecesF rows e).map .str), .sh (nt rows.length), .sh (nt le)] := by
  rw [call_df (d := ⟨3, 6, l_filled⟩) rfl]
  exact filled_run _ ok hb hn e le hle
abbrev lvl : Nat := 20
def everyE : Ex := (.idx (.lst (.cons (.cst (.int 1)) (.cons (.cst (.int 2)) (.cons (.cst (.int 4)) .nil)))) (.call 13 (.cons (.var 2) (.cons (.cst (.int 3)) .nil))))
def fourE : Ex := (.lst (.cons (.cst (.int 0)) (.cons (.cst (.int 240)) (.cons (.call 13 (.cons (.var 2) (.cons (.cst (.int 241)) .nil))) (.cons (.call 13 (.cons (.var 2) (.cons (.cst (.int 60)) .nil))) .nil)))))
def pbE (x : Ex) : Ex := (.call 11 (.cons (.var 3) (.cons (.var 4) (.cons x .nil))))
def innB : Ss := (.cons (.iff (.cmp .ne (pbE (.var 6)) (.call 17 (.cons (.var 5) (.cons (.blt .len (.cons (.var 3) .nil)) (.cons (.var 6) .nil))))) (.cons (.ret (.cst (.bl false)))
  .nil) .nil)
  .nil)
def okE : Ex := (.or (.cmp .ne (.blt .len (.cons (.var 5) .nil)) (.bin .add (.blt .len (.cons (.var 3) .nil)) (.cst (.int 7)))) (.or (.cmp .ne (.idx (.var 5) (.cst (.int 0))) (.bin .add (.bin .mul (.cst (.str [48])) (.cst (.int 11))) (.cst (.str [49])))) (.cmp .ne (.idx (.var 5) (.neg (.cst (.int 1)))) (.cst (.str [49])))))
def kB : Ss := (.cons (.asg (.var 2) (.call 12 (.cons (.var 0) (.cons (.var 1) .nil))))
  (.cons (.asg (.var 3) (.call 15 (.cons (.var 2) (.cons (.cst (.int 40)) (.cons (.cst (.int 24)) .nil)))))
  (.cons (.asg (.var 4) everyE)
  (.cons (.asg (.var 5) (.call 16 (.cons (pbE (.cst (.int 0))) .nil)))
  (.cons (.iff okE (.cons (.ret (.cst (.bl false)))
  .nil) .nil)
  (.cons (.fors (.var 6) .seq (.cons fourE .nil) innB)
  .nil))))))
theorem inn_run {b : Nat} {rows : List (List Nat)} (ok : okPage b rows) (hb : b ≤ 64) (hn : rows.length ≤ 100) (e le : Nat) (he : 1 ≤ e) (hle : le ≤ 1000) (A C G : Slot) :
    xss (call prog 19) innB ⟨[A, C, G, .sh (pgD rows), .sh (nt e), .ow ((piecesF rows e).map .str), .sh (nt le)]⟩ = .nx ⟨[A, C, G, .sh (pgD rows), .sh (nt e), .ow ((piecesF rows e).map .str), .sh (nt le)]⟩ := by
  have c1 := call_v (cf := call prog 19) (f := 11) (es := .cons (.var 3) (.cons (.var 4) (.cons (.var 6) .nil))) (rs := [.v (pgD rows), .v (nt e), .v (nt le)]) (s := ⟨[A, C, G, .sh (pgD rows), .sh (nt e), .ow ((piecesF rows e).map .str), .sh (nt le)]⟩) (s1 := ⟨[A, C, G, .sh (pgD rows), .sh (nt e), .ow ((piecesF rows e).map .str), .sh (nt le)]⟩) rfl rfl rfl (hpbits 13 ok hb hn e le he hle) (s2 := ⟨[A, C, G, .sh (pgD rows), .sh (nt e), .ow ((piecesF rows e).map .str), .sh (nt le)]⟩) rfl
  have hl : ev (call prog 19) (.blt .len (.cons (.var 3) .nil)) ⟨[A, C, G, .sh (pgD rows), .sh (nt e), .ow ((piecesF rows e).map .str), .sh (nt le)]⟩ = .ok (.v (nt rows.length)) ⟨[A, C, G, .sh (pgD rows), .sh (nt e), .ow ((piecesF rows e).map .str), .sh (nt le)]⟩ := by
    have : (rows.map D.str).length = rows.length := List.length_map ..
    unfold pgD
    generalize rows.map D.str = P at *
    generalize (piecesF rows e).map D.str = Q at *
    simp [op2_some, ev_cst, ev_var, ev_bin, ev_neg, ev_not, ev_and, ev_or, ev_cmp, ev_chn, ev_isN, ev_notN, ev_ife, ev_tup, ev_lst, ev_idx, ev_slc, ev_call, ev_blt, ev_met, ev_joi, ev_lc, ev_isi, tst_eq, evI_eq, evs_nil, evs_cons, evF_nil, evF_cons, evo_no, evo_so, xs_asg, xs_asgT, xs_par, xs_sub, xs_exp, xs_ret, xs_retN, xs_if, xs_for, xs_whl, xs_brk, xs_rse, xs_cnt, xs_pas, xss_nil, xss_cons, itK_seq, itK_rng1, itK_rng2, itK_rng3, itK_enm, itK_zip, bind_ok, bind_bad, of_ok, fbind_nx, fbind_rt, fbind_bk, fbind_ct, ofO_some, ofS_some, cnt_v, cnt_o, cnt_b, cntS_eq, frz_v, frz_o, frz_b, fr_no, fr_sh, fr_ow, fr_le, fr_lf, fr_lk, putS_fr, mutS_eq, SZ, idxV, slcV, metV, mokV, mok, inS, isiV, joiV, idxR, ixN_nat, ixN_num, binR, addR, mulR, intR, cmpR, D.tr, CM, opd, slcR, bltR, metR, hand, lent, dist, back, cnts, asgT, asgTs, D.eqv, eqvL, D.pl, plL, D.dep, depL, lockO, itemsOf, unlock, freeS, wipeS, restS, D.flat, this]
  have c2 := call_v (cf := call prog 19) (f := 17) (es := .cons (.var 5) (.cons (.blt .len (.cons (.var 3) .nil)) (.cons (.var 6) .nil))) (rs := [.b 5, .v (nt rows.length), .v (nt le)]) (s := ⟨[A, C, G, .sh (pgD rows), .sh (nt e), .ow ((piecesF rows e).map .str), .sh (nt le)]⟩) (s1 := ⟨[A, C, G, .sh (pgD rows), .sh (nt e), .ow ((piecesF rows e).map .str), .sh (nt le)]⟩) (evs_go (r := .b 5) rfl (evs_go hl (evs_go (r := .v (nt le)) rfl rfl))) rfl rfl (hfilled 18 ok hb hn e le hle) (s2 := ⟨[A, C, G, .sh (pgD rows), .sh (nt e), .ow ((piecesF rows e).map .str), .sh (nt le)]⟩) rfl
  refine xss_go (if_f (tst_v (cmp_go (k := false) c1 c2 rfl rfl ?_)) rfl) rfl
  generalize pageF rows e le = w
  simp [SZ, idxV, slcV, metV, mokV, mok, inS, isiV, joiV, idxR, ixN_nat, ixN_num, binR, addR, mulR, intR, cmpR, D.tr, CM, opd, slcR, bltR, metR, hand, lent, dist, back, cnts, asgT, asgTs, D.eqv, eqvL, D.pl, plL, D.dep, depL, lockO, itemsOf, unlock, freeS, wipeS, restS, D.flat]
theorem body_run (ns : List Int) (k : Nat) (x2 x3 x4 x5 x6 : Slot) (f2 : fr x2 = true) (f3 : fr x3 = true) (f4 : fr x4 = true) (f5 : fr x5 = true) (f6 : fr x6 = true) : ∃ y2 y3 y4 y5 y6, fr y2 = true ∧ fr y3 = true ∧ fr y4 = true ∧ fr y5 = true ∧ fr y6 = true ∧
    xss (call prog 19) kB ⟨[.sh (.scr ns), .sh (nt k), x2, x3, x4, x5, x6]⟩ = .nx ⟨[.sh (.scr ns), .sh (nt k), y2, y3, y4, y5, y6]⟩ := by
  have st1 : xs (call prog 19) (.asg (.var 2) (.call 12 (.cons (.var 0) (.cons (.var 1) .nil)))) ⟨[.sh (.scr ns), .sh (nt k), x2, x3, x4, x5, x6]⟩ = .nx ⟨[.sh (.scr ns), .sh (nt k), .ow (bg (bagOf ns k)), x3, x4, x5, x6]⟩ :=
    asg_o (call_o (s1 := ⟨[.sh (.scr ns), .sh (nt k), x2, x3, x4, x5, x6]⟩) (rs := [.v (.scr ns), .v (nt k)]) rfl rfl rfl (hbag 18 ns k) (s2 := ⟨[.sh (.scr ns), .sh (nt k), x2, x3, x4, x5, x6]⟩) rfl) (x := x2) rfl f2
  obtain ⟨b, rows, g2, b1, b2', n1, n2, ok, hpg⟩ := hpage 16 40 24 (by decide) (by decide) (by decide) (by decide) (bagOf ns k)
  have b2 : b ≤ 64 := by omega
  have st2 : xs (call prog 19) (.asg (.var 3) (.call 15 (.cons (.var 2) (.cons (.cst (.int 40)) (.cons (.cst (.int 24)) .nil))))) ⟨[.sh (.scr ns), .sh (nt k), .ow (bg (bagOf ns k)), x3, x4, x5, x6]⟩ = .nx ⟨[.sh (.scr ns), .sh (nt k), .ow (bg g2), .sh (pgD rows), x4, x5, x6]⟩ :=
    asg_v (call_v (s1 := ⟨[.sh (.scr ns), .sh (nt k), .ow (bg (bagOf ns k)), x3, x4, x5, x6]⟩) (rs := [.b 2, .v (nt 40), .v (nt 24)]) rfl rfl rfl hpg (s2 := ⟨[.sh (.scr ns), .sh (nt k), .ow (bg g2), x3, x4, x5, x6]⟩) rfl) (x := x3) rfl f3
  obtain ⟨e, g3, he, hE⟩ := pick_run (hdraw 18) (v := 2) (l := [.sh (.scr ns), .sh (nt k), .ow (bg g2), .sh (pgD rows), x4, x5, x6]) (l1 := [.sh (.scr ns), .sh (nt k), .ow (bg g2), .sh (pgD rows), x4, x5, x6]) (es := (.cons (.cst (.int 1)) (.cons (.cst (.int 2)) (.cons (.cst (.int 4)) .nil)))) [1, 2, 4] rfl rfl (c := 3) rfl (by decide) (by decide)
  have he1 : 1 ≤ e ∧ e ≤ 1000 := by
    simp only [List.mem_cons, List.not_mem_nil, or_false] at he
    omega
  have st3 : xs (call prog 19) (.asg (.var 4) everyE) ⟨[.sh (.scr ns), .sh (nt k), .ow (bg g2), .sh (pgD rows), x4, x5, x6]⟩ = .nx ⟨[.sh (.scr ns), .sh (nt k), .ow (bg g3), .sh (pgD rows), .sh (nt e), x5, x6]⟩ := asg_v hE (x := x4) rfl f4
  have c0 := call_v (cf := call prog 19) (f := 11) (es := .cons (.var 3) (.cons (.var 4) (.cons (.cst (.int 0)) .nil))) (rs := [.v (pgD rows), .v (nt e), .v (nt 0)]) (s := ⟨[.sh (.scr ns), .sh (nt k), .ow (bg g3), .sh (pgD rows), .sh (nt e), x5, x6]⟩) (s1 := ⟨[.sh (.scr ns), .sh (nt k), .ow (bg g3), .sh (pgD rows), .sh (nt e), x5, x6]⟩) rfl rfl rfl (hpbits 13 ok b2 (by omega) e 0 he1.1 (by decide)) (s2 := ⟨[.sh (.scr ns), .sh (nt k), .ow (bg g3), .sh (pgD rows), .sh (nt e), x5, x6]⟩) rfl
  have hcc := hcut 18 (pageF rows e 0) (pageF_len ok b2 e 0 (by decide) (by omega))
  rw [cut_page] at hcc
  have st4 : xs (call prog 19) (.asg (.var 5) (.call 16 (.cons (pbE (.cst (.int 0))) .nil))) ⟨[.sh (.scr ns), .sh (nt k), .ow (bg g3), .sh (pgD rows), .sh (nt e), x5, x6]⟩ = .nx ⟨[.sh (.scr ns), .sh (nt k), .ow (bg g3), .sh (pgD rows), .sh (nt e), .ow ((piecesF rows e).map .str), x6]⟩ :=
    asg_o (call_o (rs := [.v (.str (pageF rows e 0))]) (s1 := ⟨[.sh (.scr ns), .sh (nt k), .ow (bg g3), .sh (pgD rows), .sh (nt e), x5, x6]⟩) (evs_go c0 rfl) rfl rfl hcc (s2 := ⟨[.sh (.scr ns), .sh (nt k), .ow (bg g3), .sh (pgD rows), .sh (nt e), x5, x6]⟩) rfl) (x := x5) rfl f5
  have lW := pieces_len rows e
  have hok : tst (ev (call prog 19) okE) ⟨[.sh (.scr ns), .sh (nt k), .ow (bg g3), .sh (pgD rows), .sh (nt e), .ow ((piecesF rows e).map .str), x6]⟩ = .ok false ⟨[.sh (.scr ns), .sh (nt k), .ow (bg g3), .sh (pgD rows), .sh (nt e), .ow ((piecesF rows e).map .str), x6]⟩ := by
    obtain ⟨s0, hs0⟩ : ∃ s0 : S, s0 = ⟨[.sh (.scr ns), .sh (nt k), .ow (bg g3), .sh (pgD rows), .sh (nt e), .ow ((piecesF rows e).map .str), x6]⟩ := ⟨_, rfl⟩
    have i0 : ev (call prog 19) (.idx (.var 5) (.cst (.int 0))) s0 = .ok (.v (.str MARK)) s0 := idx_go (ra := .b 5) (rb := .v (nt 0)) (by rw [hs0]; rfl) (by rw [hs0]; rfl) (by rw [hs0]; rfl) rfl (idx_lstW (piecesF rows e) 0 (by omega))
    have hlast : (piecesF rows e)[rows.length + 6]? = some [49] := by
      unfold piecesF
      rw [List.getElem?_cons_succ]
      have la : ((tagsF rows e).map (· ++ MARK)).length = rows.length := by simp [tagsF]
      rw [List.getElem?_append_right (by omega), la, Nat.add_sub_cancel_left]; rfl
    have i1 : ev (call prog 19) (.idx (.var 5) (.neg (.cst (.int 1)))) s0 = .ok (.v (.str [49])) s0 := idx_go (ra := .b 5) (rb := .v (.int (-1))) (by rw [hs0]; rfl) (by rw [hs0]; rfl) (by rw [hs0]; rfl) rfl (by
      show (ixN ((piecesF rows e).map D.str).length (-1)).bind (fun k => ((piecesF rows e).map D.str)[k]?) = _
      rw [ixN_m1, List.length_map, lW, if_pos (by omega)]
      show ((piecesF rows e).map D.str)[rows.length + 7 - 1]? = _
      rw [show rows.length + 7 - 1 = rows.length + 6 from rfl, List.getElem?_map, hlast]; rfl)
    have m0 : ev (call prog 19) (.bin .add (.bin .mul (.cst (.str [48])) (.cst (.int 11))) (.cst (.str [49]))) s0 = .ok (.v (.str MARK)) s0 := rfl
    have lm : ((piecesF rows e).map D.str).length = rows.length + 7 := by rw [List.length_map]; exact lW
    have lr : (rows.map D.str).length = rows.length := List.length_map ..
    subst hs0
    unfold okE
    unfold pgD at *
    generalize (Ex.idx (.var 5) (.cst (.int 0))) = E0 at i0 ⊢
    generalize (Ex.idx (.var 5) (.neg (.cst (.int 1)))) = E1 at i1 ⊢
    generalize (Ex.bin .add (.bin .mul (.cst (.str [48])) (.cst (.int 11))) (.cst (.str [49]))) = E2 at m0 ⊢
    generalize (piecesF rows e).map D.str = Q at *
    generalize rows.map D.str = P at *
    generalize MARK = M at *
    generalize bg g3 = G at *
    simp [op2_some, ev_cst, ev_var, ev_bin, ev_neg, ev_not, ev_and, ev_or, ev_cmp, ev_chn, ev_isN, ev_notN, ev_ife, ev_tup, ev_lst, ev_idx, ev_slc, ev_call, ev_blt, ev_met, ev_joi, ev_lc, ev_isi, tst_eq, evI_eq, evs_nil, evs_cons, evF_nil, evF_cons, evo_no, evo_so, xs_asg, xs_asgT, xs_par, xs_sub, xs_exp, xs_ret, xs_retN, xs_if, xs_for, xs_whl, xs_brk, xs_rse, xs_cnt, xs_pas, xss_nil, xss_cons, itK_seq, itK_rng1, itK_rng2, itK_rng3, itK_enm, itK_zip, bind_ok, bind_bad, of_ok, fbind_nx, fbind_rt, fbind_bk, fbind_ct, ofO_some, ofS_some, cnt_v, cnt_o, cnt_b, cntS_eq, frz_v, frz_o, frz_b, fr_no, fr_sh, fr_ow, fr_le, fr_lf, fr_lk, putS_fr, mutS_eq, SZ, idxV, slcV, metV, mokV, mok, inS, isiV, joiV, idxR, ixN_nat, ixN_num, binR, addR, mulR, intR, cmpR, D.tr, CM, opd, slcR, bltR, metR, hand, lent, dist, back, cnts, asgT, asgTs, D.eqv, eqvL, D.pl, plL, D.dep, depL, lockO, itemsOf, unlock, freeS, wipeS, restS, D.flat, i0, i1, m0, lm, lr]
  obtain ⟨l1, g4, hl1, hL1⟩ := drawN (hdraw 18) (v := 2) (l := [.sh (.scr ns), .sh (nt k), .ow (bg g3), .sh (pgD rows), .sh (nt e), .ow ((piecesF rows e).map .str), x6]) rfl 241 (by decide) (by decide)
  obtain ⟨l2, g5, hl2, hL2⟩ := drawN (hdraw 18) (v := 2) (l := [.sh (.scr ns), .sh (nt k), .ow (bg g4), .sh (pgD rows), .sh (nt e), .ow ((piecesF rows e).map .str), x6]) rfl 60 (by decide) (by decide)
  have h2E : ev (call prog 19) fourE ⟨[.sh (.scr ns), .sh (nt k), .ow (bg g3), .sh (pgD rows), .sh (nt e), .ow ((piecesF rows e).map .str), x6]⟩ = .ok (.o [nt 0, nt 240, nt l1, nt l2]) ⟨[.sh (.scr ns), .sh (nt k), .ow (bg g5), .sh (pgD rows), .sh (nt e), .ow ((piecesF rows e).map .str), x6]⟩ := lst_go (evF_v rfl (evF_v rfl (evF_v hL1 (evF_v hL2 rfl)))) (by simp)
  have hit : evI .seq (evs (call prog 19) (.cons fourE .nil)) ⟨[.sh (.scr ns), .sh (nt k), .ow (bg g3), .sh (pgD rows), .sh (nt e), .ow ((piecesF rows e).map .str), x6]⟩ = .ok (([0, 240, l1, l2] : List Nat).map nt, []) ⟨[.sh (.scr ns), .sh (nt k), .ow (bg g5), .sh (pgD rows), .sh (nt e), .ow ((piecesF rows e).map .str), x6]⟩ := by
    have := evs_go (cf := call prog 19) h2E (rfl : evs _ .nil _ = .ok [] _)
    unfold evI
    rw [this]; rfl
  obtain ⟨s', ⟨y6, g6, rfl⟩, h4⟩ := forL_all (t := .var 6) (lk := []) (items := ([0, 240, l1, l2] : List Nat).map nt) (fb := xss (call prog 19) innB) (s := ⟨[.sh (.scr ns), .sh (nt k), .ow (bg g5), .sh (pgD rows), .sh (nt e), .ow ((piecesF rows e).map .str), x6]⟩)
    (fun j s => ∃ y6, fr y6 = true ∧ s = ⟨[.sh (.scr ns), .sh (nt k), .ow (bg g5), .sh (pgD rows), .sh (nt e), .ow ((piecesF rows e).map .str), y6]⟩) ⟨x6, f6, rfl⟩ (fun j d s hj ⟨y6, g6, e'⟩ => by
      subst e'
      rw [List.getElem?_map] at hj
      obtain ⟨le, hc1, hc2⟩ := Option.map_eq_some_iff.mp hj
      subst hc2
      have hle : le ≤ 1000 := by
        have := List.mem_of_getElem? hc1
        simp only [List.mem_cons, List.not_mem_nil, or_false] at this
        omega
      exact ⟨_, _, putS_at (x := y6) rfl g6, .inl (inn_run ok b2 (by omega) e le he1.1 hle _ _ _), .sh (nt le), rfl, rfl⟩)
  exact ⟨_, _, _, _, _, rfl, rfl, rfl, rfl, g6, xss_go st1 (xss_go st2 (xss_go st3 (xss_go st4 (xss_go (if_f hok rfl) (xss_go (for_in hit h4) rfl)))))⟩
theorem law_true (ns : List Int) (h : ns.length ≤ 63) : ∃ es, call prog lvl 18 [.sh (.scr ns)] = .ok (.v (.bl true)) es := by
  refine law_go (P := prog) (n := 19) (L := 18) (nn := 5) (lo := 2) (cap := 5) (ns := ns) rfl (by decide) (by decide) (fun l => ∃ x2 x3 x4 x5 x6, fr x2 = true ∧ fr x3 = true ∧ fr x4 = true ∧ fr x5 = true ∧ fr x6 = true ∧ l = [x2, x3, x4, x5, x6]) (fun l ⟨_, _, _, _, _, _, _, _, _, _, e⟩ => by subst e; rfl) ⟨.no, .no, .no, .no, .no, rfl, rfl, rfl, rfl, rfl, rfl⟩ ?_
  intro k l ⟨x2, x3, x4, x5, x6, f2, f3, f4, f5, f6, e⟩
  subst e
  obtain ⟨y2, y3, y4, y5, y6, g2, g3, g4, g5, g6, hb⟩ := body_run ns k x2 x3 x4 x5 x6 f2 f3 f4 f5 f6
  exact ⟨_, ⟨_, _, _, _, _, g2, g3, g4, g5, g6, rfl⟩, hb⟩
#print axioms law_true
end K19

namespace K19
open PySem PySem.Spec PyProof.Rows L2
abbrev topS (i : Nat) : Stmt := PySem.Challenge.pw_farpage_k19_rows_filled_up.main.body.getD i (.Pass ⟨0, 0, 0, 0⟩)
def fns : List (Str × Nat) := [("other_colour", 0), ("words_of", 1), ("run_bits", 2), ("nears", 3), ("place_of", 4), ("edges_behind", 5), ("step_from", 6), ("above_bits", 7), ("runs_of", 8), ("plain_bits", 9), ("tagged_bits", 10), ("page_bits", 11), ("_law_bag", 12), ("_law_draw", 13), ("_law_row", 14), ("_law_page", 15), ("_law_cut", 16), ("_law_filled", 17), ("law", 18)]
def cns : List (Str × Z.D) := [("LIGHT", k_LIGHT), ("DARK", k_DARK), ("MAKER", k_MAKER), ("LIGHT_WORDS", k_LIGHT_WORDS), ("DARK_WORDS", k_DARK_WORDS), ("STEP_WORDS", k_STEP_WORDS), ("PLAIN", k_PLAIN), ("PASSED", k_PASSED), ("MOST_NEAR", k_MOST_NEAR), ("MARK", k_MARK), ("LAST_MARKS", k_LAST_MARKS)]
def exs : List (Str × Nat) := []
abbrev N0 : List Str := ["colour"]
abbrev s0 : Stmt := topS 3
theorem sc0 : FnScope N0 ["colour"] (defScope s0) := ⟨rfl, rfl, rfl, by decide +kernel, rfl, by decide +kernel, by decide +kernel⟩
theorem cc0 : Z.cSs 60 ⟨N0, defScope s0, none, fns, cns, exs⟩ (defBody s0) = some p_other_colour := by kernel_rfl
abbrev N1 : List Str := ["cell"]
abbrev s1 : Stmt := topS 8
theorem sc1 : FnScope N1 ["cell"] (defScope s1) := ⟨rfl, rfl, rfl, by decide +kernel, rfl, by decide +kernel, by decide +kernel⟩
theorem cc1 : Z.cSs 60 ⟨N1, defScope s1, none, fns, cns, exs⟩ (defBody s1) = some p_words_of := by kernel_rfl
abbrev N2 : List Str := ["cell", "run", "words"]
abbrev s2 : Stmt := topS 9
theorem sc2 : FnScope N2 ["cell", "run"] (defScope s2) := ⟨rfl, rfl, rfl, by decide +kernel, rfl, by decide +kernel, by decide +kernel⟩
theorem cc2 : Z.cSs 60 ⟨N2, defScope s2, none, fns, cns, exs⟩ (defBody s2) = some p_run_bits := by kernel_rfl
abbrev N3 : List Str := []
abbrev s3 : Stmt := topS 15
theorem sc3 : FnScope N3 [] (defScope s3) := ⟨rfl, rfl, rfl, by decide +kernel, rfl, by decide +kernel, by decide +kernel⟩
theorem cc3 : Z.cSs 60 ⟨N3, defScope s3, none, fns, cns, exs⟩ (defBody s3) = some p_nears := by kernel_rfl
abbrev N4 : List Str := ["row", "cell", "begin", "found"]
abbrev s4 : Stmt := topS 16
theorem sc4 : FnScope N4 ["row", "cell", "begin"] (defScope s4) := ⟨rfl, rfl, rfl, by decide +kernel, rfl, by decide +kernel, by decide +kernel⟩
theorem cc4 : Z.cSs 60 ⟨N4, defScope s4, none, fns, cns, exs⟩ (defBody s4) = some p_place_of := by kernel_rfl
abbrev N5 : List Str := ["above", "place", "colour", "other", "begin", "far"]
abbrev s5 : Stmt := topS 17
theorem sc5 : FnScope N5 ["above", "place", "colour"] (defScope s5) := ⟨rfl, rfl, rfl, by decide +kernel, rfl, by decide +kernel, by decide +kernel⟩
theorem cc5 : Z.cSs 60 ⟨N5, defScope s5, none, fns, cns, exs⟩ (defBody s5) = some p_edges_behind := by kernel_rfl
abbrev N6 : List Str := ["above", "row", "place", "colour", "own", "far", "back", "end"]
abbrev s6 : Stmt := topS 18
theorem sc6 : FnScope N6 ["above", "row", "place", "colour"] (defScope s6) := ⟨rfl, rfl, rfl, by decide +kernel, rfl, by decide +kernel, by decide +kernel⟩
theorem cc6 : Z.cSs 60 ⟨N6, defScope s6, none, fns, cns, exs⟩ (defBody s6) = some p_step_from := by kernel_rfl
abbrev N7 : List Str := ["above", "row", "found", "place", "colour", "was", "step"]
abbrev s7 : Stmt := topS 19
theorem sc7 : FnScope N7 ["above", "row"] (defScope s7) := ⟨rfl, rfl, rfl, by decide +kernel, rfl, by decide +kernel, by decide +kernel⟩
theorem cc7 : Z.cSs 60 ⟨N7, defScope s7, none, fns, cns, exs⟩ (defBody s7) = some p_above_bits := by kernel_rfl
abbrev N8 : List Str := ["row", "found", "colour", "many", "cell"]
abbrev s8 : Stmt := topS 21
theorem sc8 : FnScope N8 ["row"] (defScope s8) := ⟨rfl, rfl, rfl, by decide +kernel, rfl, by decide +kernel, by decide +kernel⟩
theorem cc8 : Z.cSs 60 ⟨N8, defScope s8, none, fns, cns, exs⟩ (defBody s8) = some p_runs_of := by kernel_rfl
abbrev N9 : List Str := ["row", "found", "colour", "run"]
abbrev s9 : Stmt := topS 22
theorem sc9 : FnScope N9 ["row"] (defScope s9) := ⟨rfl, rfl, rfl, by decide +kernel, rfl, by decide +kernel, by decide +kernel⟩
theorem cc9 : Z.cSs 60 ⟨N9, defScope s9, none, fns, cns, exs⟩ (defBody s9) = some p_plain_bits := by kernel_rfl
abbrev N10 : List Str := ["page", "number", "every"]
abbrev s10 : Stmt := topS 26
theorem sc10 : FnScope N10 ["page", "number", "every"] (defScope s10) := ⟨rfl, rfl, rfl, by decide +kernel, rfl, by decide +kernel, by decide +kernel⟩
theorem cc10 : Z.cSs 60 ⟨N10, defScope s10, none, fns, cns, exs⟩ (defBody s10) = some p_tagged_bits := by kernel_rfl
abbrev N11 : List Str := ["page", "every", "least", "found", "number", "bits"]
abbrev s11 : Stmt := topS 27
theorem sc11 : FnScope N11 ["page", "every", "least"] (defScope s11) := ⟨rfl, rfl, rfl, by decide +kernel, rfl, by decide +kernel, by decide +kernel⟩
theorem cc11 : Z.cSs 60 ⟨N11, defScope s11, none, fns, cns, exs⟩ (defBody s11) = some p_page_bits := by kernel_rfl
abbrev N12 : List Str := ["_law_script", "_law_at", "_law_cell", "_law_great"]
abbrev s12 : Stmt := topS 29
theorem sc12 : FnScope N12 ["_law_script", "_law_at"] (defScope s12) := ⟨rfl, rfl, rfl, by decide +kernel, rfl, by decide +kernel, by decide +kernel⟩
theorem cc12 : Z.cSs 60 ⟨N12, defScope s12, none, fns, cns, exs⟩ (defBody s12) = some l_bag := by kernel_rfl
abbrev N13 : List Str := ["_law_bag_here", "_law_many", "_law_digit"]
abbrev s13 : Stmt := topS 30
theorem sc13 : FnScope N13 ["_law_bag_here", "_law_many"] (defScope s13) := ⟨rfl, rfl, rfl, by decide +kernel, rfl, by decide +kernel, by decide +kernel⟩
theorem cc13 : Z.cSs 60 ⟨N13, defScope s13, none, fns, cns, exs⟩ (defBody s13) = some l_draw := by kernel_rfl
abbrev N14 : List Str := ["_law_bag_here", "_law_breadth", "_law_above", "_law_way", "_law_row_here", "_law_place", "_law_most", "_law_colour", "_law_left", "_law_turn"]
abbrev s14 : Stmt := topS 31
theorem sc14 : FnScope N14 ["_law_bag_here", "_law_breadth", "_law_above"] (defScope s14) := ⟨rfl, rfl, rfl, by decide +kernel, rfl, by decide +kernel, by decide +kernel⟩
theorem cc14 : Z.cSs 60 ⟨N14, defScope s14, none, fns, cns, exs⟩ (defBody s14) = some l_row := by kernel_rfl
abbrev N15 : List Str := ["_law_bag_here", "_law_most_cells", "_law_most_rows", "_law_breadth", "_law_many", "_law_rows", "_law_k"]
abbrev s15 : Stmt := topS 32
theorem sc15 : FnScope N15 ["_law_bag_here", "_law_most_cells", "_law_most_rows"] (defScope s15) := ⟨rfl, rfl, rfl, by decide +kernel, rfl, by decide +kernel, by decide +kernel⟩
theorem cc15 : Z.cSs 60 ⟨N15, defScope s15, none, fns, cns, exs⟩ (defBody s15) = some l_page := by kernel_rfl
abbrev N16 : List Str := ["_law_bits", "_law_found", "_law_begin", "_law_noughts", "_law_place"]
abbrev s16 : Stmt := topS 33
theorem sc16 : FnScope N16 ["_law_bits"] (defScope s16) := ⟨rfl, rfl, rfl, by decide +kernel, rfl, by decide +kernel, by decide +kernel⟩
theorem cc16 : Z.cSs 60 ⟨N16, defScope s16, none, fns, cns, exs⟩ (defBody s16) = some l_cut := by kernel_rfl
abbrev N17 : List Str := ["_law_cut_here", "_law_many", "_law_least", "_law_found", "_law_k", "_law_part"]
abbrev s17 : Stmt := topS 34
theorem sc17 : FnScope N17 ["_law_cut_here", "_law_many", "_law_least"] (defScope s17) := ⟨rfl, rfl, rfl, by decide +kernel, rfl, by decide +kernel, by decide +kernel⟩
theorem cc17 : Z.cSs 60 ⟨N17, defScope s17, none, fns, cns, exs⟩ (defBody s17) = some l_filled := by kernel_rfl
abbrev N18 : List Str := ["_law_script", "_law_k", "_law_bag_here", "_law_page_here", "_law_every", "_law_cut_here", "_law_least"]
abbrev s18 : Stmt := topS 35
theorem sc18 : FnScope N18 ["_law_script"] (defScope s18) := ⟨rfl, rfl, rfl, by decide +kernel, rfl, by decide +kernel, by decide +kernel⟩
theorem cc18 : Z.cSs 60 ⟨N18, defScope s18, none, fns, cns, exs⟩ (defBody s18) = some p_law := by kernel_rfl
section
variable {l : PySem.W.OpenLaw} {w : World} {K : PySem.W.Frag} {h : Heap} {mg : Str → Option Value} {fa : Addr}
set_option maxHeartbeats 0 in
theorem all_mk (n : Nat) (X : K.In h) (G : h.Ns mainGlobals mg) (hfa : mg "law" = some (.ref fa))
    {f0 : Addr} {od0 an0 : Option Addr} {sl0 : Array (Option Value)} {oc0 kV0 dc0 pm0 cd0 ct0 : Value}
    (a0 : PySem.W.nsIn K mainGlobals "other_colour" = some (some (.ref f0))) (l0 : K.lookup f0 = some ⟨oc0, od0, .func (PySem.W.fnOf "other_colour" "other_colour" (defArgs s0) (defBody s0) (defScope s0) .none kV0 dc0 pm0 an0 cd0 ct0), sl0⟩) (c0 : PySem.W.codeIn K cd0 "other_colour" = true) (k0 : PySem.W.keepIn K (.ref f0) = true)
    {f1 : Addr} {od1 an1 : Option Addr} {sl1 : Array (Option Value)} {oc1 kV1 dc1 pm1 cd1 ct1 : Value}
    (a1 : PySem.W.nsIn K mainGlobals "words_of" = some (some (.ref f1))) (l1 : K.lookup f1 = some ⟨oc1, od1, .func (PySem.W.fnOf "words_of" "words_of" (defArgs s1) (defBody s1) (defScope s1) .none kV1 dc1 pm1 an1 cd1 ct1), sl1⟩) (c1 : PySem.W.codeIn K cd1 "words_of" = true) (k1 : PySem.W.keepIn K (.ref f1) = true)
    {f2 : Addr} {od2 an2 : Option Addr} {sl2 : Array (Option Value)} {oc2 kV2 dc2 pm2 cd2 ct2 : Value}
    (a2 : PySem.W.nsIn K mainGlobals "run_bits" = some (some (.ref f2))) (l2 : K.lookup f2 = some ⟨oc2, od2, .func (PySem.W.fnOf "run_bits" "run_bits" (defArgs s2) (defBody s2) (defScope s2) .none kV2 dc2 pm2 an2 cd2 ct2), sl2⟩) (c2 : PySem.W.codeIn K cd2 "run_bits" = true) (k2 : PySem.W.keepIn K (.ref f2) = true)
    {f3 : Addr} {od3 an3 : Option Addr} {sl3 : Array (Option Value)} {oc3 kV3 dc3 pm3 cd3 ct3 : Value}
    (a3 : PySem.W.nsIn K mainGlobals "nears" = some (some (.ref f3))) (l3 : K.lookup f3 = some ⟨oc3, od3, .func (PySem.W.fnOf "nears" "nears" (defArgs s3) (defBody s3) (defScope s3) .none kV3 dc3 pm3 an3 cd3 ct3), sl3⟩) (c3 : PySem.W.codeIn K cd3 "nears" = true) (k3 : PySem.W.keepIn K (.ref f3) = true)
    {f4 : Addr} {od4 an4 : Option Addr} {sl4 : Array (Option Value)} {oc4 kV4 dc4 pm4 cd4 ct4 : Value}
    (a4 : PySem.W.nsIn K mainGlobals "place_of" = some (some (.ref f4))) (l4 : K.lookup f4 = some ⟨oc4, od4, .func (PySem.W.fnOf "place_of" "place_of" (defArgs s4) (defBody s4) (defScope s4) .none kV4 dc4 pm4 an4 cd4 ct4), sl4⟩) (c4 : PySem.W.codeIn K cd4 "place_of" = true) (k4 : PySem.W.keepIn K (.ref f4) = true)
    {f5 : Addr} {od5 an5 : Option Addr} {sl5 : Array (Option Value)} {oc5 kV5 dc5 pm5 cd5 ct5 : Value}
    (a5 : PySem.W.nsIn K mainGlobals "edges_behind" = some (some (.ref f5))) (l5 : K.lookup f5 = some ⟨oc5, od5, .func (PySem.W.fnOf "edges_behind" "edges_behind" (defArgs s5) (defBody s5) (defScope s5) .none kV5 dc5 pm5 an5 cd5 ct5), sl5⟩) (c5 : PySem.W.codeIn K cd5 "edges_behind" = true) (k5 : PySem.W.keepIn K (.ref f5) = true)
    {f6 : Addr} {od6 an6 : Option Addr} {sl6 : Array (Option Value)} {oc6 kV6 dc6 pm6 cd6 ct6 : Value}
    (a6 : PySem.W.nsIn K mainGlobals "step_from" = some (some (.ref f6))) (l6 : K.lookup f6 = some ⟨oc6, od6, .func (PySem.W.fnOf "step_from" "step_from" (defArgs s6) (defBody s6) (defScope s6) .none kV6 dc6 pm6 an6 cd6 ct6), sl6⟩) (c6 : PySem.W.codeIn K cd6 "step_from" = true) (k6 : PySem.W.keepIn K (.ref f6) = true)
    {f7 : Addr} {od7 an7 : Option Addr} {sl7 : Array (Option Value)} {oc7 kV7 dc7 pm7 cd7 ct7 : Value}
    (a7 : PySem.W.nsIn K mainGlobals "above_bits" = some (some (.ref f7))) (l7 : K.lookup f7 = some ⟨oc7, od7, .func (PySem.W.fnOf "above_bits" "above_bits" (defArgs s7) (defBody s7) (defScope s7) .none kV7 dc7 pm7 an7 cd7 ct7), sl7⟩) (c7 : PySem.W.codeIn K cd7 "above_bits" = true) (k7 : PySem.W.keepIn K (.ref f7) = true)
    {f8 : Addr} {od8 an8 : Option Addr} {sl8 : Array (Option Value)} {oc8 kV8 dc8 pm8 cd8 ct8 : Value}
    (a8 : PySem.W.nsIn K mainGlobals "runs_of" = some (some (.ref f8))) (l8 : K.lookup f8 = some ⟨oc8, od8, .func (PySem.W.fnOf "runs_of" "runs_of" (defArgs s8) (defBody s8) (defScope s8) .none kV8 dc8 pm8 an8 cd8 ct8), sl8⟩) (c8 : PySem.W.codeIn K cd8 "runs_of" = true) (k8 : PySem.W.keepIn K (.ref f8) = true)
    {f9 : Addr} {od9 an9 : Option Addr} {sl9 : Array (Option Value)} {oc9 kV9 dc9 pm9 cd9 ct9 : Value}
    (a9 : PySem.W.nsIn K mainGlobals "plain_bits" = some (some (.ref f9))) (l9 : K.lookup f9 = some ⟨oc9, od9, .func (PySem.W.fnOf "plain_bits" "plain_bits" (defArgs s9) (defBody s9) (defScope s9) .none kV9 dc9 pm9 an9 cd9 ct9), sl9⟩) (c9 : PySem.W.codeIn K cd9 "plain_bits" = true) (k9 : PySem.W.keepIn K (.ref f9) = true)
    {f10 : Addr} {od10 an10 : Option Addr} {sl10 : Array (Option Value)} {oc10 kV10 dc10 pm10 cd10 ct10 : Value}
    (a10 : PySem.W.nsIn K mainGlobals "tagged_bits" = some (some (.ref f10))) (l10 : K.lookup f10 = some ⟨oc10, od10, .func (PySem.W.fnOf "tagged_bits" "tagged_bits" (defArgs s10) (defBody s10) (defScope s10) .none kV10 dc10 pm10 an10 cd10 ct10), sl10⟩) (c10 : PySem.W.codeIn K cd10 "tagged_bits" = true) (k10 : PySem.W.keepIn K (.ref f10) = true)
    {f11 : Addr} {od11 an11 : Option Addr} {sl11 : Array (Option Value)} {oc11 kV11 dc11 pm11 cd11 ct11 : Value}
    (a11 : PySem.W.nsIn K mainGlobals "page_bits" = some (some (.ref f11))) (l11 : K.lookup f11 = some ⟨oc11, od11, .func (PySem.W.fnOf "page_bits" "page_bits" (defArgs s11) (defBody s11) (defScope s11) .none kV11 dc11 pm11 an11 cd11 ct11), sl11⟩) (c11 : PySem.W.codeIn K cd11 "page_bits" = true) (k11 : PySem.W.keepIn K (.ref f11) = true)
    {f12 : Addr} {od12 an12 : Option Addr} {sl12 : Array (Option Value)} {oc12 kV12 dc12 pm12 cd12 ct12 : Value}
    (a12 : PySem.W.nsIn K mainGlobals "_law_bag" = some (some (.ref f12))) (l12 : K.lookup f12 = some ⟨oc12, od12, .func (PySem.W.fnOf "_law_bag" "_law_bag" (defArgs s12) (defBody s12) (defScope s12) .none kV12 dc12 pm12 an12 cd12 ct12), sl12⟩) (c12 : PySem.W.codeIn K cd12 "_law_bag" = true) (k12 : PySem.W.keepIn K (.ref f12) = true)
    {f13 : Addr} {od13 an13 : Option Addr} {sl13 : Array (Option Value)} {oc13 kV13 dc13 pm13 cd13 ct13 : Value}
    (a13 : PySem.W.nsIn K mainGlobals "_law_draw" = some (some (.ref f13))) (l13 : K.lookup f13 = some ⟨oc13, od13, .func (PySem.W.fnOf "_law_draw" "_law_draw" (defArgs s13) (defBody s13) (defScope s13) .none kV13 dc13 pm13 an13 cd13 ct13), sl13⟩) (c13 : PySem.W.codeIn K cd13 "_law_draw" = true) (k13 : PySem.W.keepIn K (.ref f13) = true)
    {f14 : Addr} {od14 an14 : Option Addr} {sl14 : Array (Option Value)} {oc14 kV14 dc14 pm14 cd14 ct14 : Value}
    (a14 : PySem.W.nsIn K mainGlobals "_law_row" = some (some (.ref f14))) (l14 : K.lookup f14 = some ⟨oc14, od14, .func (PySem.W.fnOf "_law_row" "_law_row" (defArgs s14) (defBody s14) (defScope s14) .none kV14 dc14 pm14 an14 cd14 ct14), sl14⟩) (c14 : PySem.W.codeIn K cd14 "_law_row" = true) (k14 : PySem.W.keepIn K (.ref f14) = true)
    {f15 : Addr} {od15 an15 : Option Addr} {sl15 : Array (Option Value)} {oc15 kV15 dc15 pm15 cd15 ct15 : Value}
    (a15 : PySem.W.nsIn K mainGlobals "_law_page" = some (some (.ref f15))) (l15 : K.lookup f15 = some ⟨oc15, od15, .func (PySem.W.fnOf "_law_page" "_law_page" (defArgs s15) (defBody s15) (defScope s15) .none kV15 dc15 pm15 an15 cd15 ct15), sl15⟩) (c15 : PySem.W.codeIn K cd15 "_law_page" = true) (k15 : PySem.W.keepIn K (.ref f15) = true)
    {f16 : Addr} {od16 an16 : Option Addr} {sl16 : Array (Option Value)} {oc16 kV16 dc16 pm16 cd16 ct16 : Value}
    (a16 : PySem.W.nsIn K mainGlobals "_law_cut" = some (some (.ref f16))) (l16 : K.lookup f16 = some ⟨oc16, od16, .func (PySem.W.fnOf "_law_cut" "_law_cut" (defArgs s16) (defBody s16) (defScope s16) .none kV16 dc16 pm16 an16 cd16 ct16), sl16⟩) (c16 : PySem.W.codeIn K cd16 "_law_cut" = true) (k16 : PySem.W.keepIn K (.ref f16) = true)
    {f17 : Addr} {od17 an17 : Option Addr} {sl17 : Array (Option Value)} {oc17 kV17 dc17 pm17 cd17 ct17 : Value}
    (a17 : PySem.W.nsIn K mainGlobals "_law_filled" = some (some (.ref f17))) (l17 : K.lookup f17 = some ⟨oc17, od17, .func (PySem.W.fnOf "_law_filled" "_law_filled" (defArgs s17) (defBody s17) (defScope s17) .none kV17 dc17 pm17 an17 cd17 ct17), sl17⟩) (c17 : PySem.W.codeIn K cd17 "_law_filled" = true) (k17 : PySem.W.keepIn K (.ref f17) = true)
    {f18 : Addr} {od18 an18 : Option Addr} {sl18 : Array (Option Value)} {oc18 kV18 dc18 pm18 cd18 ct18 : Value}
    (a18 : PySem.W.nsIn K mainGlobals "law" = some (some (.ref f18))) (l18 : K.lookup f18 = some ⟨oc18, od18, .func (PySem.W.fnOf "law" "law" (defArgs s18) (defBody s18) (defScope s18) .none kV18 dc18 pm18 an18 cd18 ct18), sl18⟩) (c18 : PySem.W.codeIn K cd18 "law" = true) (k18 : PySem.W.keepIn K (.ref f18) = true)
    {gt0 : Tok} (kst0 : PySem.W.nsIn K mainGlobals "LIGHT" = some (some (.str "." gt0)))
    {gt1 : Tok} (kst1 : PySem.W.nsIn K mainGlobals "DARK" = some (some (.str "#" gt1)))
    {gt2 : Tok} (kst2 : PySem.W.nsIn K mainGlobals "MAKER" = some (some (.int 16 gt2)))
    {ta3 : Addr} {od_3 : Option Addr} {its3 : Array Value} {nn3 : Nat} {sl_3 : Array (Option Value)} (kst3 : PySem.W.nsIn K mainGlobals "LIGHT_WORDS" = some (some (.ref ta3))) (klk3 : K.lookup ta3 = some ⟨.type "tuple", od_3, .seq its3 nn3, sl_3⟩) (kvs3 : its3.size ≤ 16777216 ∧ Vals [.str (Z.sOf [48, 49, 49, 48, 48, 49]), .str (Z.sOf [49, 49, 49, 49]), .str (Z.sOf [49, 49, 49, 48]), .str (Z.sOf [49, 49, 48, 49]), .str (Z.sOf [49, 49, 48, 48]), .str (Z.sOf [49, 48, 49, 49]), .str (Z.sOf [49, 48, 48, 48, 49]), .str (Z.sOf [49, 48, 48, 48, 48]), .str (Z.sOf [48, 49, 49, 49, 49]), .str (Z.sOf [48, 49, 49, 49, 48]), .str (Z.sOf [48, 49, 49, 48, 48, 48]), .str (Z.sOf [48, 49, 48, 49, 49, 49]), .str (Z.sOf [48, 49, 48, 49, 49, 48]), .str (Z.sOf [48, 49, 48, 49, 48, 49]), .str (Z.sOf [48, 49, 48, 49, 48, 48]), .str (Z.sOf [48, 49, 48, 48, 49, 49]), .str (Z.sOf [49, 48, 49, 48]), .str (Z.sOf [48, 49, 49, 48, 49]), .str (Z.sOf [48, 49, 48, 48, 49, 48]), .str (Z.sOf [49, 48, 48, 49])] its3.toList)
    {ta4 : Addr} {od_4 : Option Addr} {its4 : Array Value} {nn4 : Nat} {sl_4 : Array (Option Value)} (kst4 : PySem.W.nsIn K mainGlobals "DARK_WORDS" = some (some (.ref ta4))) (klk4 : K.lookup ta4 = some ⟨.type "tuple", od_4, .seq its4 nn4, sl_4⟩) (kvs4 : its4.size ≤ 16777216 ∧ Vals [.str (Z.sOf [48, 48, 49, 49, 48, 49, 49]), .str (Z.sOf [49, 49]), .str (Z.sOf [49, 48, 49]), .str (Z.sOf [49, 48, 48]), .str (Z.sOf [48, 49, 49, 49]), .str (Z.sOf [48, 49, 49, 48]), .str (Z.sOf [48, 49, 48, 49, 49]), .str (Z.sOf [48, 49, 48, 49, 48]), .str (Z.sOf [48, 49, 48, 48, 49]), .str (Z.sOf [48, 49, 48, 48, 48, 49]), .str (Z.sOf [48, 49, 48, 48, 48, 48]), .str (Z.sOf [48, 48, 49, 49, 49, 49]), .str (Z.sOf [48, 48, 49, 49, 48, 49, 48]), .str (Z.sOf [48, 48, 49, 49, 48, 48, 49]), .str (Z.sOf [48, 48, 49, 49, 48, 48, 48]), .str (Z.sOf [48, 48, 49, 48, 49, 49, 49]), .str (Z.sOf [48, 48, 49, 49, 49, 48]), .str (Z.sOf [48, 48, 49, 48, 49, 49, 48]), .str (Z.sOf [48, 48, 49, 48, 49, 48, 49]), .str (Z.sOf [48, 48, 49, 48, 49, 48, 48])] its4.toList)
    {ta5 : Addr} {od_5 : Option Addr} {its5 : Array Value} {nn5 : Nat} {sl_5 : Array (Option Value)} (kst5 : PySem.W.nsIn K mainGlobals "STEP_WORDS" = some (some (.ref ta5))) (klk5 : K.lookup ta5 = some ⟨.type "tuple", od_5, .seq its5 nn5, sl_5⟩) (kvs5 : its5.size ≤ 16777216 ∧ Vals [.str (Z.sOf [49]), .str (Z.sOf [48, 49, 49]), .str (Z.sOf [48, 49, 48]), .str (Z.sOf [48, 48, 49]), .str (Z.sOf [48, 48, 48, 49, 49]), .str (Z.sOf [48, 48, 48, 49, 48]), .str (Z.sOf [48, 48, 48, 48, 49, 49]), .str (Z.sOf [48, 48, 48, 48, 49, 48]), .str (Z.sOf [48, 48, 48, 48, 48, 49])] its5.toList)
    {gt6 : Tok} (kst6 : PySem.W.nsIn K mainGlobals "PLAIN" = some (some (.int 3 gt6)))
    {gt7 : Tok} (kst7 : PySem.W.nsIn K mainGlobals "PASSED" = some (some (.int 4 gt7)))
    {gt8 : Tok} (kst8 : PySem.W.nsIn K mainGlobals "MOST_NEAR" = some (some (.int 3 gt8)))
    {gt9 : Tok} (kst9 : PySem.W.nsIn K mainGlobals "MARK" = some (some (.str "000000000001" gt9)))
    {gt10 : Tok} (kst10 : PySem.W.nsIn K mainGlobals "LAST_MARKS" = some (some (.int 6 gt10)))
    (z0 : PySem.W.nsIn K mainGlobals "len" = some none)
    (z1 : PySem.W.nsIn K mainGlobals "list" = some none)
    (z2 : PySem.W.nsIn K mainGlobals "tuple" = some none)
    (z3 : PySem.W.nsIn K mainGlobals "str" = some none)
    (z4 : PySem.W.nsIn K mainGlobals "int" = some none)
    (z5 : PySem.W.nsIn K mainGlobals "abs" = some none)
    (z6 : PySem.W.nsIn K mainGlobals "min" = some none)
    (z7 : PySem.W.nsIn K mainGlobals "max" = some none)
    (z8 : PySem.W.nsIn K mainGlobals "sum" = some none)
    (z9 : PySem.W.nsIn K mainGlobals "sorted" = some none)
    (z10 : PySem.W.nsIn K mainGlobals "all" = some none)
    (z11 : PySem.W.nsIn K mainGlobals "any" = some none)
    (z12 : PySem.W.nsIn K mainGlobals "range" = some none)
    (z13 : PySem.W.nsIn K mainGlobals "enumerate" = some none)
    (z14 : PySem.W.nsIn K mainGlobals "zip" = some none)
    (z15 : PySem.W.nsIn K mainGlobals "isinstance" = some none)
    (z16 : PySem.W.nsIn K mainGlobals "bool" = some none)
    : ∃ fd : FuncData, (∀ (s : Shared) (v : Value), BindsTo s fd ⟨[v], []⟩ [("_law_script", v)]) ∧ ∀ base : Heap, K.In base → base.Ns mainGlobals mg → FnOk l.prog w K mg base (L2.CX l.prog w) n fa fd ["_law_script"] (Z.spA K (Z.call prog n) 18) := by
  let ca : Nat → Value := fun i => match i with  | _ => .none
  have e := hfa.symm.trans (PySem.W.mg_of X G a18)
  cases e
  have F0 := fun_mk (st := s0) l0 c0 k0
  have b0 := F0.binds (ps := ["colour"]) fun _ _ _ _ _ _ us hl => match us, hl with | [_], _ => rfl
  have D0 : Z.Dfok K mg prog fns cns exs "other_colour" 0 _ _ ["colour"] := ⟨⟨"other_colour", s0, N0, ⟨1, 1, p_other_colour⟩, 60, F0, sc0, rfl, rfl, rfl, cc0⟩, PySem.W.mg_of X G a0, b0⟩
  have F1 := fun_mk (st := s1) l1 c1 k1
  have b1 := F1.binds (ps := ["cell"]) fun _ _ _ _ _ _ us hl => match us, hl with | [_], _ => rfl
  have D1 : Z.Dfok K mg prog fns cns exs "words_of" 1 _ _ ["cell"] := ⟨⟨"words_of", s1, N1, ⟨1, 1, p_words_of⟩, 60, F1, sc1, rfl, rfl, rfl, cc1⟩, PySem.W.mg_of X G a1, b1⟩
  have F2 := fun_mk (st := s2) l2 c2 k2
  have b2 := F2.binds (ps := ["cell", "run"]) fun _ _ _ _ _ _ us hl => match us, hl with | [_, _], _ => rfl
  have D2 : Z.Dfok K mg prog fns cns exs "run_bits" 2 _ _ ["cell", "run"] := ⟨⟨"run_bits", s2, N2, ⟨2, 3, p_run_bits⟩, 60, F2, sc2, rfl, rfl, rfl, cc2⟩, PySem.W.mg_of X G a2, b2⟩
  have F3 := fun_mk (st := s3) l3 c3 k3
  have b3 := F3.binds (ps := []) fun _ _ _ _ _ _ us hl => match us, hl with | [], _ => rfl
  have D3 : Z.Dfok K mg prog fns cns exs "nears" 3 _ _ [] := ⟨⟨"nears", s3, N3, ⟨0, 0, p_nears⟩, 60, F3, sc3, rfl, rfl, rfl, cc3⟩, PySem.W.mg_of X G a3, b3⟩
  have F4 := fun_mk (st := s4) l4 c4 k4
  have b4 := F4.binds (ps := ["row", "cell", "begin"]) fun _ _ _ _ _ _ us hl => match us, hl with | [_, _, _], _ => rfl
  have D4 : Z.Dfok K mg prog fns cns exs "place_of" 4 _ _ ["row", "cell", "begin"] := ⟨⟨"place_of", s4, N4, ⟨3, 4, p_place_of⟩, 60, F4, sc4, rfl, rfl, rfl, cc4⟩, PySem.W.mg_of X G a4, b4⟩
  have F5 := fun_mk (st := s5) l5 c5 k5
  have b5 := F5.binds (ps := ["above", "place", "colour"]) fun _ _ _ _ _ _ us hl => match us, hl with | [_, _, _], _ => rfl
  have D5 : Z.Dfok K mg prog fns cns exs "edges_behind" 5 _ _ ["above", "place", "colour"] := ⟨⟨"edges_behind", s5, N5, ⟨3, 6, p_edges_behind⟩, 60, F5, sc5, rfl, rfl, rfl, cc5⟩, PySem.W.mg_of X G a5, b5⟩
  have F6 := fun_mk (st := s6) l6 c6 k6
  have b6 := F6.binds (ps := ["above", "row", "place", "colour"]) fun _ _ _ _ _ _ us hl => match us, hl with | [_, _, _, _], _ => rfl
  have D6 : Z.Dfok K mg prog fns cns exs "step_from" 6 _ _ ["above", "row", "place", "colour"] := ⟨⟨"step_from", s6, N6, ⟨4, 8, p_step_from⟩, 60, F6, sc6, rfl, rfl, rfl, cc6⟩, PySem.W.mg_of X G a6, b6⟩
  have F7 := fun_mk (st := s7) l7 c7 k7
  have b7 := F7.binds (ps := ["above", "row"]) fun _ _ _ _ _ _ us hl => match us, hl with | [_, _], _ => rfl
  have D7 : Z.Dfok K mg prog fns cns exs "above_bits" 7 _ _ ["above", "row"] := ⟨⟨"above_bits", s7, N7, ⟨2, 7, p_above_bits⟩, 60, F7, sc7, rfl, rfl, rfl, cc7⟩, PySem.W.mg_of X G a7, b7⟩
  have F8 := fun_mk (st := s8) l8 c8 k8
  have b8 := F8.binds (ps := ["row"]) fun _ _ _ _ _ _ us hl => match us, hl with | [_], _ => rfl
  have D8 : Z.Dfok K mg prog fns cns exs "runs_of" 8 _ _ ["row"] := ⟨⟨"runs_of", s8, N8, ⟨1, 5, p_runs_of⟩, 60, F8, sc8, rfl, rfl, rfl, cc8⟩, PySem.W.mg_of X G a8, b8⟩
  have F9 := fun_mk (st := s9) l9 c9 k9
  have b9 := F9.binds (ps := ["row"]) fun _ _ _ _ _ _ us hl => match us, hl with | [_], _ => rfl
  have D9 : Z.Dfok K mg prog fns cns exs "plain_bits" 9 _ _ ["row"] := ⟨⟨"plain_bits", s9, N9, ⟨1, 4, p_plain_bits⟩, 60, F9, sc9, rfl, rfl, rfl, cc9⟩, PySem.W.mg_of X G a9, b9⟩
  have F10 := fun_mk (st := s10) l10 c10 k10
  have b10 := F10.binds (ps := ["page", "number", "every"]) fun _ _ _ _ _ _ us hl => match us, hl with | [_, _, _], _ => rfl
  have D10 : Z.Dfok K mg prog fns cns exs "tagged_bits" 10 _ _ ["page", "number", "every"] := ⟨⟨"tagged_bits", s10, N10, ⟨3, 3, p_tagged_bits⟩, 60, F10, sc10, rfl, rfl, rfl, cc10⟩, PySem.W.mg_of X G a10, b10⟩
  have F11 := fun_mk (st := s11) l11 c11 k11
  have b11 := F11.binds (ps := ["page", "every", "least"]) fun _ _ _ _ _ _ us hl => match us, hl with | [_, _, _], _ => rfl
  have D11 : Z.Dfok K mg prog fns cns exs "page_bits" 11 _ _ ["page", "every", "least"] := ⟨⟨"page_bits", s11, N11, ⟨3, 6, p_page_bits⟩, 60, F11, sc11, rfl, rfl, rfl, cc11⟩, PySem.W.mg_of X G a11, b11⟩
  have F12 := fun_mk (st := s12) l12 c12 k12
  have b12 := F12.binds (ps := ["_law_script", "_law_at"]) fun _ _ _ _ _ _ us hl => match us, hl with | [_, _], _ => rfl
  have D12 : Z.Dfok K mg prog fns cns exs "_law_bag" 12 _ _ ["_law_script", "_law_at"] := ⟨⟨"_law_bag", s12, N12, ⟨2, 4, l_bag⟩, 60, F12, sc12, rfl, rfl, rfl, cc12⟩, PySem.W.mg_of X G a12, b12⟩
  have F13 := fun_mk (st := s13) l13 c13 k13
  have b13 := F13.binds (ps := ["_law_bag_here", "_law_many"]) fun _ _ _ _ _ _ us hl => match us, hl with | [_, _], _ => rfl
  have D13 : Z.Dfok K mg prog fns cns exs "_law_draw" 13 _ _ ["_law_bag_here", "_law_many"] := ⟨⟨"_law_draw", s13, N13, ⟨2, 3, l_draw⟩, 60, F13, sc13, rfl, rfl, rfl, cc13⟩, PySem.W.mg_of X G a13, b13⟩
  have F14 := fun_mk (st := s14) l14 c14 k14
  have b14 := F14.binds (ps := ["_law_bag_here", "_law_breadth", "_law_above"]) fun _ _ _ _ _ _ us hl => match us, hl with | [_, _, _], _ => rfl
  have D14 : Z.Dfok K mg prog fns cns exs "_law_row" 14 _ _ ["_law_bag_here", "_law_breadth", "_law_above"] := ⟨⟨"_law_row", s14, N14, ⟨3, 10, l_row⟩, 60, F14, sc14, rfl, rfl, rfl, cc14⟩, PySem.W.mg_of X G a14, b14⟩
  have F15 := fun_mk (st := s15) l15 c15 k15
  have b15 := F15.binds (ps := ["_law_bag_here", "_law_most_cells", "_law_most_rows"]) fun _ _ _ _ _ _ us hl => match us, hl with | [_, _, _], _ => rfl
  have D15 : Z.Dfok K mg prog fns cns exs "_law_page" 15 _ _ ["_law_bag_here", "_law_most_cells", "_law_most_rows"] := ⟨⟨"_law_page", s15, N15, ⟨3, 7, l_page⟩, 60, F15, sc15, rfl, rfl, rfl, cc15⟩, PySem.W.mg_of X G a15, b15⟩
  have F16 := fun_mk (st := s16) l16 c16 k16
  have b16 := F16.binds (ps := ["_law_bits"]) fun _ _ _ _ _ _ us hl => match us, hl with | [_], _ => rfl
  have D16 : Z.Dfok K mg prog fns cns exs "_law_cut" 16 _ _ ["_law_bits"] := ⟨⟨"_law_cut", s16, N16, ⟨1, 5, l_cut⟩, 60, F16, sc16, rfl, rfl, rfl, cc16⟩, PySem.W.mg_of X G a16, b16⟩
  have F17 := fun_mk (st := s17) l17 c17 k17
  have b17 := F17.binds (ps := ["_law_cut_here", "_law_many", "_law_least"]) fun _ _ _ _ _ _ us hl => match us, hl with | [_, _, _], _ => rfl
  have D17 : Z.Dfok K mg prog fns cns exs "_law_filled" 17 _ _ ["_law_cut_here", "_law_many", "_law_least"] := ⟨⟨"_law_filled", s17, N17, ⟨3, 6, l_filled⟩, 60, F17, sc17, rfl, rfl, rfl, cc17⟩, PySem.W.mg_of X G a17, b17⟩
  have F18 := fun_mk (st := s18) l18 c18 k18
  have b18 := F18.binds (ps := ["_law_script"]) fun _ _ _ _ _ _ us hl => match us, hl with | [_], _ => rfl
  have D18 : Z.Dfok K mg prog fns cns exs "law" 18 _ _ ["_law_script"] := ⟨⟨"law", s18, N18, ⟨1, 7, p_law⟩, 60, F18, sc18, rfl, rfl, rfl, cc18⟩, PySem.W.mg_of X G a18, b18⟩
  have q0 : ∃ v u, mg "LIGHT" = some u ∧ RelV v u ∧ ∀ A0, Z.Rep K A0 k_LIGHT v := ⟨.str (Z.sOf [46]), _, PySem.W.mg_of X G kst0, ⟨_, rfl⟩, fun _ => .str _ (fun c hc => of_decide_eq_true (List.all_eq_true.mp (show ([46] : List Nat).all (fun c => decide (c < 1114112)) = true from rfl) c hc))⟩
  have q1 : ∃ v u, mg "DARK" = some u ∧ RelV v u ∧ ∀ A0, Z.Rep K A0 k_DARK v := ⟨.str (Z.sOf [35]), _, PySem.W.mg_of X G kst1, ⟨_, rfl⟩, fun _ => .str _ (fun c hc => of_decide_eq_true (List.all_eq_true.mp (show ([35] : List Nat).all (fun c => decide (c < 1114112)) = true from rfl) c hc))⟩
  have q2 : ∃ v u, mg "MAKER" = some u ∧ RelV v u ∧ ∀ A0, Z.Rep K A0 k_MAKER v := ⟨.int 16, _, PySem.W.mg_of X G kst2, ⟨_, rfl⟩, fun _ => .int _⟩
  have q3 : ∃ v u, mg "LIGHT_WORDS" = some u ∧ RelV v u ∧ ∀ A0, Z.Rep K A0 k_LIGHT_WORDS v := ⟨.ref ta3, _, PySem.W.mg_of X G kst3, rfl, fun _ => .tup (.inr ⟨_, _, _, klk3, rfl, rfl, by rw [sizeLine_eq]; exact kvs3.1, kvs3.2⟩) (.cons (.str _ (fun c hc => of_decide_eq_true (List.all_eq_true.mp (show ([48, 49, 49, 48, 48, 49] : List Nat).all (fun c => decide (c < 1114112)) = true from rfl) c hc))) (.cons (.str _ (fun c hc => of_decide_eq_true (List.all_eq_true.mp (show ([49, 49, 49, 49] : List Nat).all (fun c => decide (c < 1114112)) = true from rfl) c hc))) (.cons (.str _ (fun c hc => of_decide_eq_true (List.all_eq_true.mp (show ([49, 49, 49, 48] : List Nat).all (fun c => decide (c < 1114112)) = true from rfl) c hc))) (.cons (.str _ (fun c hc => of_decide_eq_true (List.all_eq_true.mp (show ([49, 49, 48, 49] : List Nat).all (fun c => decide (c < 1114112)) = true from rfl) c hc))) (.cons (.str _ (fun c hc => of_decide_eq_true (List.all_eq_true.mp (show ([49, 49, 48, 48] : List Nat).all (fun c => decide (c < 1114112)) = true from rfl) c hc))) (.cons (.str _ (fun c hc => of_decide_eq_true (List.all_eq_true.mp (show ([49, 48, 49, 49] : List Nat).all (fun c => decide (c < 1114112)) = true from rfl) c hc))) (.cons (.str _ (fun c hc => of_decide_eq_true (List.all_eq_true.mp (show ([49, 48, 48, 48, 49] : List Nat).all (fun c => decide (c < 1114112)) = true from rfl) c hc))) (.cons (.str _ (fun c hc => of_decide_eq_true (List.all_eq_true.mp (show ([49, 48, 48, 48, 48] : List Nat).all (fun c => decide (c < 1114112)) = true from rfl) c hc))) (.cons (.str _ (fun c hc => of_decide_eq_true (List.all_eq_true.mp (show ([48, 49, 49, 49, 49] : List Nat).all (fun c => decide (c < 1114112)) = true from rfl) c hc))) (.cons (.str _ (fun c hc => of_decide_eq_true (List.all_eq_true.mp (show ([48, 49, 49, 49, 48] : List Nat).all (fun c => decide (c < 1114112)) = true from rfl) c hc))) (.cons (.str _ (fun c hc => of_decide_eq_true (List.all_eq_true.mp (show ([48, 49, 49, 48, 48, 48] : List Nat).all (fun c => decide (c < 1114112)) = true from rfl) c hc))) (.cons (.str _ (fun c hc => of_decide_eq_true (List.all_eq_true.mp (show ([48, 49, 48, 49, 49, 49] : List Nat).all (fun c => decide (c < 1114112)) = true from rfl) c hc))) (.cons (.str _ (fun c hc => of_decide_eq_true (List.all_eq_true.mp (show ([48, 49, 48, 49, 49, 48] : List Nat).all (fun c => decide (c < 1114112)) = true from rfl) c hc))) (.cons (.str _ (fun c hc => of_decide_eq_true (List.all_eq_true.mp (show ([48, 49, 48, 49, 48, 49] : List Nat).all (fun c => decide (c < 1114112)) = true from rfl) c hc))) (.cons (.str _ (fun c hc => of_decide_eq_true (List.all_eq_true.mp (show ([48, 49, 48, 49, 48, 48] : List Nat).all (fun c => decide (c < 1114112)) = true from rfl) c hc))) (.cons (.str _ (fun c hc => of_decide_eq_true (List.all_eq_true.mp (show ([48, 49, 48, 48, 49, 49] : List Nat).all (fun c => decide (c < 1114112)) = true from rfl) c hc))) (.cons (.str _ (fun c hc => of_decide_eq_true (List.all_eq_true.mp (show ([49, 48, 49, 48] : List Nat).all (fun c => decide (c < 1114112)) = true from rfl) c hc))) (.cons (.str _ (fun c hc => of_decide_eq_true (List.all_eq_true.mp (show ([48, 49, 49, 48, 49] : List Nat).all (fun c => decide (c < 1114112)) = true from rfl) c hc))) (.cons (.str _ (fun c hc => of_decide_eq_true (List.all_eq_true.mp (show ([48, 49, 48, 48, 49, 48] : List Nat).all (fun c => decide (c < 1114112)) = true from rfl) c hc))) (.cons (.str _ (fun c hc => of_decide_eq_true (List.all_eq_true.mp (show ([49, 48, 48, 49] : List Nat).all (fun c => decide (c < 1114112)) = true from rfl) c hc))) (.nil)))))))))))))))))))))⟩
  have q4 : ∃ v u, mg "DARK_WORDS" = some u ∧ RelV v u ∧ ∀ A0, Z.Rep K A0 k_DARK_WORDS v := ⟨.ref ta4, _, PySem.W.mg_of X G kst4, rfl, fun _ => .tup (.inr ⟨_, _, _, klk4, rfl, rfl, by rw [sizeLine_eq]; exact kvs4.1, kvs4.2⟩) (.cons (.str _ (fun c hc => of_decide_eq_true (List.all_eq_true.mp (show ([48, 48, 49, 49, 48, 49, 49] : List Nat).all (fun c => decide (c < 1114112)) = true from rfl) c hc))) (.cons (.str _ (fun c hc => of_decide_eq_true (List.all_eq_true.mp (show ([49, 49] : List Nat).all (fun c => decide (c < 1114112)) = true from rfl) c hc))) (.cons (.str _ (fun c hc => of_decide_eq_true (List.all_eq_true.mp (show ([49, 48, 49] : List Nat).all (fun c => decide (c < 1114112)) = true from rfl) c hc))) (.cons (.str _ (fun c hc => of_decide_eq_true (List.all_eq_true.mp (show ([49, 48, 48] : List Nat).all (fun c => decide (c < 1114112)) = true from rfl) c hc))) (.cons (.str _ (fun c hc => of_decide_eq_true (List.all_eq_true.mp (show ([48, 49, 49, 49] : List Nat).all (fun c => decide (c < 1114112)) = true from rfl) c hc))) (.cons (.str _ (fun c hc => of_decide_eq_true (List.all_eq_true.mp (show ([48, 49, 49, 48] : List Nat).all (fun c => decide (c < 1114112)) = true from rfl) c hc))) (.cons (.str _ (fun c hc => of_decide_eq_true (List.all_eq_true.mp (show ([48, 49, 48, 49, 49] : List Nat).all (fun c => decide (c < 1114112)) = true from rfl) c hc))) (.cons (.str _ (fun c hc => of_decide_eq_true (List.all_eq_true.mp (show ([48, 49, 48, 49, 48] : List Nat).all (fun c => decide (c < 1114112)) = true from rfl) c hc))) (.cons (.str _ (fun c hc => of_decide_eq_true (List.all_eq_true.mp (show ([48, 49, 48, 48, 49] : List Nat).all (fun c => decide (c < 1114112)) = true from rfl) c hc))) (.cons (.str _ (fun c hc => of_decide_eq_true (List.all_eq_true.mp (show ([48, 49, 48, 48, 48, 49] : List Nat).all (fun c => decide (c < 1114112)) = true from rfl) c hc))) (.cons (.str _ (fun c hc => of_decide_eq_true (List.all_eq_true.mp (show ([48, 49, 48, 48, 48, 48] : List Nat).all (fun c => decide (c < 1114112)) = true from rfl) c hc))) (.cons (.str _ (fun c hc => of_decide_eq_true (List.all_eq_true.mp (show ([48, 48, 49, 49, 49, 49] : List Nat).all (fun c => decide (c < 1114112)) = true from rfl) c hc))) (.cons (.str _ (fun c hc => of_decide_eq_true (List.all_eq_true.mp (show ([48, 48, 49, 49, 48, 49, 48] : List Nat).all (fun c => decide (c < 1114112)) = true from rfl) c hc))) (.cons (.str _ (fun c hc => of_decide_eq_true (List.all_eq_true.mp (show ([48, 48, 49, 49, 48, 48, 49] : List Nat).all (fun c => decide (c < 1114112)) = true from rfl) c hc))) (.cons (.str _ (fun c hc => of_decide_eq_true (List.all_eq_true.mp (show ([48, 48, 49, 49, 48, 48, 48] : List Nat).all (fun c => decide (c < 1114112)) = true from rfl) c hc))) (.cons (.str _ (fun c hc => of_decide_eq_true (List.all_eq_true.mp (show ([48, 48, 49, 48, 49, 49, 49] : List Nat).all (fun c => decide (c < 1114112)) = true from rfl) c hc))) (.cons (.str _ (fun c hc => of_decide_eq_true (List.all_eq_true.mp (show ([48, 48, 49, 49, 49, 48] : List Nat).all (fun c => decide (c < 1114112)) = true from rfl) c hc))) (.cons (.str _ (fun c hc => of_decide_eq_true (List.all_eq_true.mp (show ([48, 48, 49, 48, 49, 49, 48] : List Nat).all (fun c => decide (c < 1114112)) = true from rfl) c hc))) (.cons (.str _ (fun c hc => of_decide_eq_true (List.all_eq_true.mp (show ([48, 48, 49, 48, 49, 48, 49] : List Nat).all (fun c => decide (c < 1114112)) = true from rfl) c hc))) (.cons (.str _ (fun c hc => of_decide_eq_true (List.all_eq_true.mp (show ([48, 48, 49, 48, 49, 48, 48] : List Nat).all (fun c => decide (c < 1114112)) = true from rfl) c hc))) (.nil)))))))))))))))))))))⟩
  have q5 : ∃ v u, mg "STEP_WORDS" = some u ∧ RelV v u ∧ ∀ A0, Z.Rep K A0 k_STEP_WORDS v := ⟨.ref ta5, _, PySem.W.mg_of X G kst5, rfl, fun _ => .tup (.inr ⟨_, _, _, klk5, rfl, rfl, by rw [sizeLine_eq]; exact kvs5.1, kvs5.2⟩) (.cons (.str _ (fun c hc => of_decide_eq_true (List.all_eq_true.mp (show ([49] : List Nat).all (fun c => decide (c < 1114112)) = true from rfl) c hc))) (.cons (.str _ (fun c hc => of_decide_eq_true (List.all_eq_true.mp (show ([48, 49, 49] : List Nat).all (fun c => decide (c < 1114112)) = true from rfl) c hc))) (.cons (.str _ (fun c hc => of_decide_eq_true (List.all_eq_true.mp (show ([48, 49, 48] : List Nat).all (fun c => decide (c < 1114112)) = true from rfl) c hc))) (.cons (.str _ (fun c hc => of_decide_eq_true (List.all_eq_true.mp (show ([48, 48, 49] : List Nat).all (fun c => decide (c < 1114112)) = true from rfl) c hc))) (.cons (.str _ (fun c hc => of_decide_eq_true (List.all_eq_true.mp (show ([48, 48, 48, 49, 49] : List Nat).all (fun c => decide (c < 1114112)) = true from rfl) c hc))) (.cons (.str _ (fun c hc => of_decide_eq_true (List.all_eq_true.mp (show ([48, 48, 48, 49, 48] : List Nat).all (fun c => decide (c < 1114112)) = true from rfl) c hc))) (.cons (.str _ (fun c hc => of_decide_eq_true (List.all_eq_true.mp (show ([48, 48, 48, 48, 49, 49] : List Nat).all (fun c => decide (c < 1114112)) = true from rfl) c hc))) (.cons (.str _ (fun c hc => of_decide_eq_true (List.all_eq_true.mp (show ([48, 48, 48, 48, 49, 48] : List Nat).all (fun c => decide (c < 1114112)) = true from rfl) c hc))) (.cons (.str _ (fun c hc => of_decide_eq_true (List.all_eq_true.mp (show ([48, 48, 48, 48, 48, 49] : List Nat).all (fun c => decide (c < 1114112)) = true from rfl) c hc))) (.nil))))))))))⟩
  have q6 : ∃ v u, mg "PLAIN" = some u ∧ RelV v u ∧ ∀ A0, Z.Rep K A0 k_PLAIN v := ⟨.int 3, _, PySem.W.mg_of X G kst6, ⟨_, rfl⟩, fun _ => .int _⟩
  have q7 : ∃ v u, mg "PASSED" = some u ∧ RelV v u ∧ ∀ A0, Z.Rep K A0 k_PASSED v := ⟨.int 4, _, PySem.W.mg_of X G kst7, ⟨_, rfl⟩, fun _ => .int _⟩
  have q8 : ∃ v u, mg "MOST_NEAR" = some u ∧ RelV v u ∧ ∀ A0, Z.Rep K A0 k_MOST_NEAR v := ⟨.int 3, _, PySem.W.mg_of X G kst8, ⟨_, rfl⟩, fun _ => .int _⟩
  have q9 : ∃ v u, mg "MARK" = some u ∧ RelV v u ∧ ∀ A0, Z.Rep K A0 k_MARK v := ⟨.str (Z.sOf [48, 48, 48, 48, 48, 48, 48, 48, 48, 48, 48, 49]), _, PySem.W.mg_of X G kst9, ⟨_, rfl⟩, fun _ => .str _ (fun c hc => of_decide_eq_true (List.all_eq_true.mp (show ([48, 48, 48, 48, 48, 48, 48, 48, 48, 48, 48, 49] : List Nat).all (fun c => decide (c < 1114112)) = true from rfl) c hc))⟩
  have q10 : ∃ v u, mg "LAST_MARKS" = some u ∧ RelV v u ∧ ∀ A0, Z.Rep K A0 k_LAST_MARKS v := ⟨.int 6, _, PySem.W.mg_of X G kst10, ⟨_, rfl⟩, fun _ => .int _⟩
  have T : Z.Tbl K mg prog fns cns exs ca := by
    refine ⟨fun x i hx => ?_, fun x d hx => ?_, fun x hx => ?_, fun x i hx => ?_⟩
    · have hx : ([("other_colour", 0), ("words_of", 1), ("run_bits", 2), ("nears", 3), ("place_of", 4), ("edges_behind", 5), ("step_from", 6), ("above_bits", 7), ("runs_of", 8), ("plain_bits", 9), ("tagged_bits", 10), ("page_bits", 11), ("_law_bag", 12), ("_law_draw", 13), ("_law_row", 14), ("_law_page", 15), ("_law_cut", 16), ("_law_filled", 17), ("law", 18)] : List (Str × Nat)).lookup x = some i := hx
      rcases Z.look_cons hx with ⟨rfl, rfl⟩ | hx
      · exact ⟨_, _, _, D0⟩
      rcases Z.look_cons hx with ⟨rfl, rfl⟩ | hx
      · exact ⟨_, _, _, D1⟩
      rcases Z.look_cons hx with ⟨rfl, rfl⟩ | hx
      · exact ⟨_, _, _, D2⟩
      rcases Z.look_cons hx with ⟨rfl, rfl⟩ | hx
      · exact ⟨_, _, _, D3⟩
      rcases Z.look_cons hx with ⟨rfl, rfl⟩ | hx
      · exact ⟨_, _, _, D4⟩
      rcases Z.look_cons hx with ⟨rfl, rfl⟩ | hx
      · exact ⟨_, _, _, D5⟩
      rcases Z.look_cons hx with ⟨rfl, rfl⟩ | hx
      · exact ⟨_, _, _, D6⟩
      rcases Z.look_cons hx with ⟨rfl, rfl⟩ | hx
      · exact ⟨_, _, _, D7⟩
      rcases Z.look_cons hx with ⟨rfl, rfl⟩ | hx
      · exact ⟨_, _, _, D8⟩
      rcases Z.look_cons hx with ⟨rfl, rfl⟩ | hx
      · exact ⟨_, _, _, D9⟩
      rcases Z.look_cons hx with ⟨rfl, rfl⟩ | hx
      · exact ⟨_, _, _, D10⟩
      rcases Z.look_cons hx with ⟨rfl, rfl⟩ | hx
      · exact ⟨_, _, _, D11⟩
      rcases Z.look_cons hx with ⟨rfl, rfl⟩ | hx
      · exact ⟨_, _, _, D12⟩
      rcases Z.look_cons hx with ⟨rfl, rfl⟩ | hx
      · exact ⟨_, _, _, D13⟩
      rcases Z.look_cons hx with ⟨rfl, rfl⟩ | hx
      · exact ⟨_, _, _, D14⟩
      rcases Z.look_cons hx with ⟨rfl, rfl⟩ | hx
      · exact ⟨_, _, _, D15⟩
      rcases Z.look_cons hx with ⟨rfl, rfl⟩ | hx
      · exact ⟨_, _, _, D16⟩
      rcases Z.look_cons hx with ⟨rfl, rfl⟩ | hx
      · exact ⟨_, _, _, D17⟩
      rcases Z.look_cons hx with ⟨rfl, rfl⟩ | hx
      · exact ⟨_, _, _, D18⟩
      cases hx
    · have hx : ([("LIGHT", k_LIGHT), ("DARK", k_DARK), ("MAKER", k_MAKER), ("LIGHT_WORDS", k_LIGHT_WORDS), ("DARK_WORDS", k_DARK_WORDS), ("STEP_WORDS", k_STEP_WORDS), ("PLAIN", k_PLAIN), ("PASSED", k_PASSED), ("MOST_NEAR", k_MOST_NEAR), ("MARK", k_MARK), ("LAST_MARKS", k_LAST_MARKS)] : List (Str × Z.D)).lookup x = some d := hx
      rcases Z.look_cons hx with ⟨rfl, rfl⟩ | hx
      · exact q0
      rcases Z.look_cons hx with ⟨rfl, rfl⟩ | hx
      · exact q1
      rcases Z.look_cons hx with ⟨rfl, rfl⟩ | hx
      · exact q2
      rcases Z.look_cons hx with ⟨rfl, rfl⟩ | hx
      · exact q3
      rcases Z.look_cons hx with ⟨rfl, rfl⟩ | hx
      · exact q4
      rcases Z.look_cons hx with ⟨rfl, rfl⟩ | hx
      · exact q5
      rcases Z.look_cons hx with ⟨rfl, rfl⟩ | hx
      · exact q6
      rcases Z.look_cons hx with ⟨rfl, rfl⟩ | hx
      · exact q7
      rcases Z.look_cons hx with ⟨rfl, rfl⟩ | hx
      · exact q8
      rcases Z.look_cons hx with ⟨rfl, rfl⟩ | hx
      · exact q9
      rcases Z.look_cons hx with ⟨rfl, rfl⟩ | hx
      · exact q10
      cases hx
    · have hx : x ∈ (["len", "list", "tuple", "str", "int", "abs", "min", "max", "sum", "sorted", "all", "any", "range", "enumerate", "zip", "isinstance", "bool"] : List Str) := hx
      rcases List.mem_cons.mp hx with rfl | hx
      · exact PySem.W.mg_none_of X G z0
      rcases List.mem_cons.mp hx with rfl | hx
      · exact PySem.W.mg_none_of X G z1
      rcases List.mem_cons.mp hx with rfl | hx
      · exact PySem.W.mg_none_of X G z2
      rcases List.mem_cons.mp hx with rfl | hx
      · exact PySem.W.mg_none_of X G z3
      rcases List.mem_cons.mp hx with rfl | hx
      · exact PySem.W.mg_none_of X G z4
      rcases List.mem_cons.mp hx with rfl | hx
      · exact PySem.W.mg_none_of X G z5
      rcases List.mem_cons.mp hx with rfl | hx
      · exact PySem.W.mg_none_of X G z6
      rcases List.mem_cons.mp hx with rfl | hx
      · exact PySem.W.mg_none_of X G z7
      rcases List.mem_cons.mp hx with rfl | hx
      · exact PySem.W.mg_none_of X G z8
      rcases List.mem_cons.mp hx with rfl | hx
      · exact PySem.W.mg_none_of X G z9
      rcases List.mem_cons.mp hx with rfl | hx
      · exact PySem.W.mg_none_of X G z10
      rcases List.mem_cons.mp hx with rfl | hx
      · exact PySem.W.mg_none_of X G z11
      rcases List.mem_cons.mp hx with rfl | hx
      · exact PySem.W.mg_none_of X G z12
      rcases List.mem_cons.mp hx with rfl | hx
      · exact PySem.W.mg_none_of X G z13
      rcases List.mem_cons.mp hx with rfl | hx
      · exact PySem.W.mg_none_of X G z14
      rcases List.mem_cons.mp hx with rfl | hx
      · exact PySem.W.mg_none_of X G z15
      rcases List.mem_cons.mp hx with rfl | hx
      · exact PySem.W.mg_none_of X G z16
      cases hx
    · have hx : ([] : List (Str × Nat)).lookup x = some i := hx
      cases hx
  exact ⟨PySem.W.fnOf "law" "law" (defArgs s18) (defBody s18) (defScope s18) .none kV18 dc18 pm18 an18 cd18 ct18, fun s v => .of_eq rfl, fun base _ _ => Z.fn_all (Z.all_ok T n D18)⟩
end
end K19
open PySem PySem.W PyProof.Rows
set_option maxHeartbeats 0 in
theorem PySem.Challenge.cw_farpage_k19_rows_filled_up_holds : PySem.Challenge.rw_farpage_k19_rows_filled_up.Holds := by
  w_on; o_law; k_head; (case hw => w_witness2)
  k_fill
  refine L2.walk_of (l := PySem.Challenge.rw_farpage_k19_rows_filled_up) (n := 63) (k := K19.lvl) (x := "_law_script") (CX := fun w => L2.CX PySem.Challenge.rw_farpage_k19_rows_filled_up.prog w) (sp := fun w => Z.spA _ (Z.call K19.prog K19.lvl) 18) rfl (by decide) rfl ⟨rfl, by decide, by decide⟩ (fun w h Y => PySem.W.kIn_of Y) ?F (fun _ _ a ns hl _ hS ca => Z.law_sp (ca := ca) (K19.law_true ns hl) hS) (fun w H s e s' h => Z.cx_no h)
  case F =>
    intro w mg fa h KX G hmg
    refine' K19.all_mk _ KX G hmg ?a0 ?l0 ?c0 ?k0 ?a1 ?l1 ?c1 ?k1 ?a2 ?l2 ?c2 ?k2 ?a3 ?l3 ?c3 ?k3 ?a4 ?l4 ?c4 ?k4 ?a5 ?l5 ?c5 ?k5 ?a6 ?l6 ?c6 ?k6 ?a7 ?l7 ?c7 ?k7 ?a8 ?l8 ?c8 ?k8 ?a9 ?l9 ?c9 ?k9 ?a10 ?l10 ?c10 ?k10 ?a11 ?l11 ?c11 ?k11 ?a12 ?l12 ?c12 ?k12 ?a13 ?l13 ?c13 ?k13 ?a14 ?l14 ?c14 ?k14 ?a15 ?l15 ?c15 ?k15 ?a16 ?l16 ?c16 ?k16 ?a17 ?l17 ?c17 ?k17 ?a18 ?l18 ?c18 ?k18 ?kst0 ?kst1 ?kst2 ?kst3 ?klk3 ?kvs3 ?kst4 ?klk4 ?kvs4 ?kst5 ?klk5 ?kvs5 ?kst6 ?kst7 ?kst8 ?kst9 ?kst10 ?z0 ?z1 ?z2 ?z3 ?z4 ?z5 ?z6 ?z7 ?z8 ?z9 ?z10 ?z11 ?z12 ?z13 ?z14 ?z15 ?z16
    (case a0 => k_is)
    (case l0 => k_is)
    (case c0 => k_is)
    (case k0 => k_is)
    (case a1 => k_is)
    (case l1 => k_is)
    (case c1 => k_is)
    (case k1 => k_is)
    (case a2 => k_is)
    (case l2 => k_is)
    (case c2 => k_is)
    (case k2 => k_is)
    (case a3 => k_is)
    (case l3 => k_is)
    (case c3 => k_is)
    (case k3 => k_is)
    (case a4 => k_is)
    (case l4 => k_is)
    (case c4 => k_is)
    (case k4 => k_is)
    (case a5 => k_is)
    (case l5 => k_is)
    (case c5 => k_is)
    (case k5 => k_is)
    (case a6 => k_is)
    (case l6 => k_is)
    (case c6 => k_is)
    (case k6 => k_is)
    (case a7 => k_is)
    (case l7 => k_is)
    (case c7 => k_is)
    (case k7 => k_is)
    (case a8 => k_is)
    (case l8 => k_is)
    (case c8 => k_is)
    (case k8 => k_is)
    (case a9 => k_is)
    (case l9 => k_is)
    (case c9 => k_is)
    (case k9 => k_is)
    (case a10 => k_is)
    (case l10 => k_is)
    (case c10 => k_is)
    (case k10 => k_is)
    (case a11 => k_is)
    (case l11 => k_is)
    (case c11 => k_is)
    (case k11 => k_is)
    (case a12 => k_is)
    (case l12 => k_is)
    (case c12 => k_is)
    (case k12 => k_is)
    (case a13 => k_is)
    (case l13 => k_is)
    (case c13 => k_is)
    (case k13 => k_is)
    (case a14 => k_is)
    (case l14 => k_is)
    (case c14 => k_is)
    (case k14 => k_is)
    (case a15 => k_is)
    (case l15 => k_is)
    (case c15 => k_is)
    (case k15 => k_is)
    (case a16 => k_is)
    (case l16 => k_is)
    (case c16 => k_is)
    (case k16 => k_is)
    (case a17 => k_is)
    (case l17 => k_is)
    (case c17 => k_is)
    (case k17 => k_is)
    (case a18 => k_is)
    (case l18 => k_is)
    (case c18 => k_is)
    (case k18 => k_is)
    (case kst0 => k_is)
    (case kst1 => k_is)
    (case kst2 => k_is)
    (case kst3 => k_is)
    (case klk3 => k_is)
    (case kvs3 => exact ⟨by decide, .cons ⟨_, rfl⟩ (.cons ⟨_, rfl⟩ (.cons ⟨_, rfl⟩ (.cons ⟨_, rfl⟩ (.cons ⟨_, rfl⟩ (.cons ⟨_, rfl⟩ (.cons ⟨_, rfl⟩ (.cons ⟨_, rfl⟩ (.cons ⟨_, rfl⟩ (.cons ⟨_, rfl⟩ (.cons ⟨_, rfl⟩ (.cons ⟨_, rfl⟩ (.cons ⟨_, rfl⟩ (.cons ⟨_, rfl⟩ (.cons ⟨_, rfl⟩ (.cons ⟨_, rfl⟩ (.cons ⟨_, rfl⟩ (.cons ⟨_, rfl⟩ (.cons ⟨_, rfl⟩ (.cons ⟨_, rfl⟩ (.nil))))))))))))))))))))⟩)
    (case kst4 => k_is)
    (case klk4 => k_is)
    (case kvs4 => exact ⟨by decide, .cons ⟨_, rfl⟩ (.cons ⟨_, rfl⟩ (.cons ⟨_, rfl⟩ (.cons ⟨_, rfl⟩ (.cons ⟨_, rfl⟩ (.cons ⟨_, rfl⟩ (.cons ⟨_, rfl⟩ (.cons ⟨_, rfl⟩ (.cons ⟨_, rfl⟩ (.cons ⟨_, rfl⟩ (.cons ⟨_, rfl⟩ (.cons ⟨_, rfl⟩ (.cons ⟨_, rfl⟩ (.cons ⟨_, rfl⟩ (.cons ⟨_, rfl⟩ (.cons ⟨_, rfl⟩ (.cons ⟨_, rfl⟩ (.cons ⟨_, rfl⟩ (.cons ⟨_, rfl⟩ (.cons ⟨_, rfl⟩ (.nil))))))))))))))))))))⟩)
    (case kst5 => k_is)
    (case klk5 => k_is)
    (case kvs5 => exact ⟨by decide, .cons ⟨_, rfl⟩ (.cons ⟨_, rfl⟩ (.cons ⟨_, rfl⟩ (.cons ⟨_, rfl⟩ (.cons ⟨_, rfl⟩ (.cons ⟨_, rfl⟩ (.cons ⟨_, rfl⟩ (.cons ⟨_, rfl⟩ (.cons ⟨_, rfl⟩ (.nil)))))))))⟩)
    (case kst6 => k_is)
    (case kst7 => k_is)
    (case kst8 => k_is)
    (case kst9 => k_is)
    (case kst10 => k_is)
    (case z0 => k_is)
    (case z1 => k_is)
    (case z2 => k_is)
    (case z3 => k_is)
    (case z4 => k_is)
    (case z5 => k_is)
    (case z6 => k_is)
    (case z7 => k_is)
    (case z8 => k_is)
    (case z9 => k_is)
    (case z10 => k_is)
    (case z11 => k_is)
    (case z12 => k_is)
    (case z13 => k_is)
    (case z14 => k_is)
    (case z15 => k_is)
    (case z16 => k_is)

