import PyProof.Rows.All
import HandS.ForMost
import HandS.ForExc
import HandS.Defaults
import HandS.MakeKw
import HandS.MakeKwOnly
import HandS.TryMany
import HandS.CallSlots
import HandS.ExcInit
import HandS.ExcField
import HandS.Small
import HandS.Deep
import HandS.Zip
import HandS.Wide
import HandS.IsInst
import HandS.DictComp
import HandS.TupAny
import HandS.FStr
import HandS.Conv
import HandS.SortInts
import HandS.SortRule
import HandS.Flow
import HandS.SetFor
import HandS.Lambda
import HandS.TupSets
import HandS.More
import HandS.ExcOwn
import HandS.HeadHook4
import HandS.TryOnly
import KE.KStateDown
import Lean
import HandS.Base
import HandS.Call
import HandS.Ends
import HandS.Words
import HandS.WordsExc
import HandS.Head0
import HandS.Head1
import HandS.Head2
import HandS.HeadEnd
import HandS.HeadHook1
import HandS.HeadHook2
import HandS.HeadWalk
import PySem.Challenge.RW_earshot_k07_fields_refused
/-! Fn0: a small functional Python over trees. Values D, mutable objects Ob in a store Sto, terms ME, MS, and what they compute. -/
set_option linter.all false
namespace Fn

/-- a key of a dict: an int, a text -/
inductive Ky where
  | i (n : Int) | s (cs : List Nat)
  deriving DecidableEq
/-- .. or a tuple of such -/
inductive GKey where
  | one (k : Ky) | tp (ks : List Ky)
  deriving DecidableEq

mutual
/-- a value: data as trees, mutable objects by their place in the store -/
inductive D where
  | non | bl (b : Bool) | int (i : Int) | str (cs : List Nat)
  | tup (ds : List D)
  /-- a tuple, a list of the module's own or the script: read only -/
  | ktup (ds : List D) | klst (ds : List D)
  /-- an object that never changes again -/
  | frz (o : Ob)
  | loc (l : Nat)
inductive Ob where
  | lst (ds : List D)
  /-- t: the keys are tuples -/
  | dct (t : Bool) (kvs : List (GKey × D))
  | ins (c : String) (fs : List (String × D))
  /-- walked by a loop just now -/
  | lk (o : Ob)
  | dead
end
instance : Inhabited D := ⟨.non⟩
instance : Inhabited Ob := ⟨.dead⟩

/-- a raised exception: its class, its fields -/
structure Xn where
  cls : String
  fs : List (String × D)

structure Sto where
  ob : List Ob
  base : Nat
  esc : Bool

inductive R (α : Type) where
  | ok (a : α) (s : Sto) | ex (x : Xn) (s : Sto) | no
def R.bind {α β : Type} : R α → (α → Sto → R β) → R β
  | .ok a s, f => f a s
  | .ex x s, _ => .ex x s
  | .no, _ => .no
@[simp] theorem R.bind_ok {α β : Type} (a : α) (s : Sto) (f : α → Sto → R β) : (R.ok a s).bind f = f a s := rfl
@[simp] theorem R.bind_ex {α β : Type} (x : Xn) (s : Sto) (f : α → Sto → R β) : (R.ex x s : R α).bind f = .ex x s := rfl
@[simp] theorem R.bind_no {α β : Type} (f : α → Sto → R β) : (R.no : R α).bind f = .no := rfl
/-- a partial pure answer -/
def at? {α : Type} (o : Option α) (s : Sto) : R α := match o with | some a => .ok a s | none => .no
@[simp] theorem at?_some {α : Type} (a : α) (s : Sto) : at? (some a) s = .ok a s := rfl
@[simp] theorem at?_none {α : Type} (s : Sto) : at? (none : Option α) s = .no := rfl

/-! ### no location inside -/
mutual
def D.lf : D → Bool
  | .tup ds => D.lfL ds
  | .ktup ds => D.lfL ds
  | .klst ds => D.lfL ds
  | .frz o => o.lf
  | .loc _ => false
  | _ => true
def Ob.lf : Ob → Bool
  | .lst ds => D.lfL ds
  | .dct _ kvs => D.lfK kvs
  | .ins _ fs => D.lfF fs
  | .lk o => o.lf
  | .dead => true
def D.lfL : List D → Bool
  | [] => true
  | d :: r => d.lf && D.lfL r
def D.lfK : List (GKey × D) → Bool
  | [] => true
  | (_, d) :: r => d.lf && D.lfK r
def D.lfF : List (String × D) → Bool
  | [] => true
  | (_, d) :: r => d.lf && D.lfF r
end

/-! ### what is read -/
def Ob.unlk : Ob → Ob
  | .lk o => o
  | o => o
/-- the object behind a value -/
def view (d : D) (s : Sto) : Option Ob := match d with
  | .frz o => some o
  | .loc l => (s.ob[l]?).map Ob.unlk
  | _ => none
/-- the items of a list or tuple -/
def seqOf (d : D) (s : Sto) : Option (List D) := match d with
  | .tup ds => some ds
  | .ktup ds => some ds
  | .klst ds => some ds
  | d => match view d s with
    | some (.lst ds) => some ds
    | _ => none
/-- .. of a list -/
def lstOf (d : D) (s : Sto) : Option (List D) := match d with
  | .klst ds => some ds
  | d => match view d s with
    | some (.lst ds) => some ds
    | _ => none
def dctOf (d : D) (s : Sto) : Option (Bool × List (GKey × D)) := match view d s with
  | some (.dct t kvs) => some (t, kvs)
  | _ => none
def insOf (d : D) (s : Sto) : Option (String × List (String × D)) := match view d s with
  | some (.ins c fs) => some (c, fs)
  | _ => none

def Ky.d : Ky → D
  | .i n => .int n
  | .s cs => .str cs
def GKey.d : GKey → D
  | .one k => k.d
  | .tp ks => .tup (ks.map Ky.d)
def kyOf : D → Option Ky
  | .int n => some (.i n)
  | .str cs => some (.s cs)
  | _ => none
def kysOf : List D → Option (List Ky)
  | [] => some []
  | d :: r => match kyOf d, kysOf r with
    | some k, some ks => some (k :: ks)
    | _, _ => none
def gkOf : D → Option GKey
  | .tup ds => (kysOf ds).map .tp
  | d => (kyOf d).map .one
def GKey.isT : GKey → Bool
  | .one _ => false
  | .tp _ => true
def kget (kvs : List (GKey × D)) (k : GKey) : Option D := match kvs with
  | [] => none
  | (j, d) :: r => if j = k then some d else kget r k
def kput (kvs : List (GKey × D)) (k : GKey) (v : D) : List (GKey × D) :=
  if (kvs.any fun p => decide (p.1 = k)) = true then kvs.map (fun p => if p.1 = k then (p.1, v) else p) else kvs ++ [(k, v)]
def kdrop (kvs : List (GKey × D)) (k : GKey) : List (GKey × D) := kvs.filter fun p => decide (p.1 ≠ k)

/-! ### equality of data -/
mutual
/-- plain data, at most n deep -/
def dat : Nat → D → Bool
  | _, .non => true
  | _, .bl _ => true
  | _, .int _ => true
  | _, .str cs => cs.all (fun c => decide (c < 1114112))
  | n + 1, .tup ds => datL n ds
  | n + 1, .ktup ds => datL n ds
  | n + 1, .frz (.lst ds) => datL n ds
  | _, _ => false
def datL : Nat → List D → Bool
  | _, [] => true
  | n, d :: r => dat n d && datL n r
end
mutual
def peq : D → D → Bool
  | .non, .non => true
  | .bl a, .bl b => a == b
  | .bl a, .int j => decide ((if a = true then 1 else 0) = j)
  | .int i, .bl b => decide (i = (if b = true then 1 else 0))
  | .int a, .int b => decide (a = b)
  | .str a, .str b => decide (a = b)
  | .tup a, .tup b => peqL a b
  | .tup a, .ktup b => peqL a b
  | .ktup a, .tup b => peqL a b
  | .ktup a, .ktup b => peqL a b
  | .frz (.lst a), .frz (.lst b) => peqL a b
  | _, _ => false
def peqL : List D → List D → Bool
  | [], [] => true
  | a :: r, b :: q => peq a b && peqL r q
  | [], _ :: _ => false
  | _ :: _, [] => false
end
/-- a list behind a location, as data -/
def deref (d : D) (s : Sto) : D := match d with
  | .loc l => match (s.ob[l]?).map Ob.unlk with
    | some (.lst ds) => .frz (.lst ds)
    | _ => d
  | _ => d

/-! ### numbers -/
def divLine : Nat := 2 ^ 9000
def lenLine : Nat := 16777216
def mulOk (i j : Int) : Prop := i.natAbs.log2 + j.natAbs.log2 < 1000000
instance (i j : Int) : Decidable (mulOk i j) := inferInstanceAs (Decidable (_ < _))
inductive Bop where | add | sub | mul | fdiv | mod | pow
  deriving DecidableEq
inductive Cop where | eq | ne | lt | le | gt | ge | isin | notin
  deriving DecidableEq

/-- a new object: kept as data, or (m) at a new place -/
def mkOb (m : Bool) (o : Ob) (s : Sto) : R D := if m = true then .ok (.loc s.ob.length) { s with ob := s.ob ++ [o] } else .ok (.frz o) s
def mkLst (m : Bool) (ds : List D) (s : Sto) : R D := if ds.length ≤ lenLine then mkOb m (.lst ds) s else .no

def bin (op : Bop) (x y : D) (s : Sto) : R D := match op with
  | .add => match x, y with
    | .int i, .int j => .ok (.int (i + j)) s
    | .str a, .str b => if a.length + b.length ≤ lenLine then .ok (.str (a ++ b)) s else .no
    | .tup a, .tup b => if a.length + b.length ≤ lenLine then .ok (.tup (a ++ b)) s else .no
    | x, y => match view x s, view y s with
      | some (.lst a), some (.lst b) => mkLst false (a ++ b) s
      | _, _ => .no
  | .sub => match x, y with
    | .int i, .int j => .ok (.int (i - j)) s
    | _, _ => .no
  | .mul => match x, y with
    | .int i, .int j => if mulOk i j then .ok (.int (i * j)) s else .no
    | _, _ => .no
  | .fdiv => match x, y with
    | .int i, .int j => if j ≠ 0 ∧ j.natAbs < divLine then .ok (.int (i.fdiv j)) s else .no
    | _, _ => .no
  | .mod => match x, y with
    | .int i, .int j => if j ≠ 0 then .ok (.int (i.fmod j)) s else .no
    | _, _ => .no
  | .pow => match x, y with
    | .int i, .int j => if 0 ≤ j ∧ j ≤ 1000 ∧ i.natAbs < 2 ^ 64 then .ok (.int (i ^ j.toNat)) s else .no
    | _, _ => .no

def cmpI (op : Cop) (i j : Int) : Option Bool := match op with
  | .lt => some (decide (i < j))
  | .le => some (decide (i ≤ j))
  | .gt => some (decide (j < i))
  | .ge => some (decide (j ≤ i))
  | _ => none
/-- x among the items -/
def memL (x : D) (ds : List D) : Option Bool := if dat 60 x = true ∧ datL 60 ds = true then some (ds.any fun d => peq d x) else none
def inOf (x y : D) (s : Sto) : Option Bool := match dctOf y s with
  | some (t, kvs) => (gkOf x).bind fun k => if k.isT = t then some (kget kvs k).isSome else none
  | none => match seqOf y s with
    | some ds => memL x ds
    | none => match x, y with
      | .str [c], .str z => some (decide (c ∈ z))
      | _, _ => none
def cmp (op : Cop) (x y : D) (s : Sto) : Option Bool := match op with
  | .eq => if dat 60 (deref x s) = true ∧ dat 60 (deref y s) = true then some (peq (deref x s) (deref y s)) else none
  | .ne => if dat 60 (deref x s) = true ∧ dat 60 (deref y s) = true then some (!peq (deref x s) (deref y s)) else none
  | .isin => inOf x y s
  | .notin => (inOf x y s).map fun b => !b
  | op => match x, y with
    | .int i, .int j => cmpI op i j
    | _, _ => none

def truth (d : D) (s : Sto) : Option Bool := match d with
  | .non => some false
  | .bl b => some b
  | .int i => some (decide (i ≠ 0))
  | .str cs => if cs.length ≤ lenLine then some (!cs.isEmpty) else none
  | d => match seqOf d s with
    | some ds => some (!ds.isEmpty)
    | none => match dctOf d s with
      | some (false, kvs) => some (!kvs.isEmpty)
      | _ => none

/-- a place of a list, from the left or the right -/
def ixAt {α : Type} (l : List α) (i : Int) : Option α := if 0 ≤ i then l[i.toNat]? else if 0 ≤ i + l.length then l[(i + l.length).toNat]? else none
def ixPut (n : Nat) (i : Int) : Option Nat := if 0 ≤ i then (if i.toNat < n then some i.toNat else none) else if 0 ≤ i + n then some (i + n).toNat else none
def idx (o i : D) (s : Sto) : Option D := match dctOf o s with
  | some (t, kvs) => (gkOf i).bind fun k => if k.isT = t then kget kvs k else none
  | none => match i with
    | .int i => match seqOf o s with
      | some ds => ixAt ds i
      | none => match o with
        | .str cs => if cs.length ≤ lenLine then (ixAt cs i).map fun c => .str [c] else none
        | _ => none
    | _ => none
/-- a slice's bound -/
def cutAt (n : Nat) (i : Int) : Nat := if i < 0 then (i + n).toNat else min i.toNat n
def cutL {α : Type} (l : List α) (lo hi : Option Int) : List α :=
  let a := match lo with | some i => cutAt l.length i | none => 0
  let b := match hi with | some i => cutAt l.length i | none => l.length
  (l.drop a).take (b - a)
def slc (m : Bool) (o : D) (lo hi : Option Int) (s : Sto) : R D := match o with
  | .str cs => if cs.length ≤ lenLine then .ok (.str (cutL cs lo hi)) s else .no
  | .tup ds => .ok (.tup (cutL ds lo hi)) s
  | o => match lstOf o s with
    | some ds => mkOb m (.lst (cutL ds lo hi)) s
    | none => .no

def fget (fs : List (String × D)) (f : String) : Option D := match fs with
  | [] => none
  | (g, d) :: r => if g = f then some d else fget r f
def fput (fs : List (String × D)) (f : String) (v : D) : List (String × D) := match fs with
  | [] => [(f, v)]
  | (g, d) :: r => if g = f then (g, v) :: r else (g, d) :: fput r f v

/-! ### what is changed -/
/-- an object's content anew; esc: a location went into an object older than the call -/
def Sto.put (s : Sto) (l : Nat) (o : Ob) (d : D) : Sto := { s with ob := s.ob.set l o, esc := s.esc || (decide (l < s.base) && !d.lf) }
def putIx (o i v : D) (s : Sto) : R Unit := match o with
  | .loc l => match s.ob[l]? with
    | some (.lst ds) => match i with
      | .int i => match ixPut ds.length i with
        | some k => .ok () (s.put l (.lst (ds.set k v)) v)
        | none => .no
      | _ => .no
    | some (.dct t kvs) => match gkOf i with
      | some k => if k.isT = t ∧ kvs.length < lenLine then .ok () (s.put l (.dct t (kput kvs k v)) v) else .no
      | none => .no
    | _ => .no
  | _ => .no
def putFld (o : D) (f : String) (v : D) (s : Sto) : R Unit := match o with
  | .loc l => match s.ob[l]? with
    | some (.ins c fs) => if fs.length < 900 then .ok () (s.put l (.ins c (fput fs f v)) v) else .no
    | _ => .no
  | _ => .no

/-! ### ghost: what never changes again -/
mutual
def fz : Nat → D → Sto → Option (D × Sto)
  | 0, _, _ => none
  | n + 1, d, s => match d with
    | .loc l => match s.ob[l]? with
      | some (.lst ds) => (fzL n ds s).map fun p => (.frz (.lst p.1), { p.2 with ob := p.2.ob.set l .dead })
      | some (.dct t kvs) => (fzK n kvs s).map fun p => (.frz (.dct t p.1), { p.2 with ob := p.2.ob.set l .dead })
      | some (.ins c fs) => (fzF n fs s).map fun p => (.frz (.ins c p.1), { p.2 with ob := p.2.ob.set l .dead })
      | _ => none
    | d => if d.lf = true then some (d, s) else none
def fzL : Nat → List D → Sto → Option (List D × Sto)
  | _, [], s => some ([], s)
  | n, d :: r, s => (fz n d s).bind fun p => (fzL n r p.2).map fun q => (p.1 :: q.1, q.2)
def fzK : Nat → List (GKey × D) → Sto → Option (List (GKey × D) × Sto)
  | _, [], s => some ([], s)
  | n, (k, d) :: r, s => (fz n d s).bind fun p => (fzK n r p.2).map fun q => ((k, p.1) :: q.1, q.2)
def fzF : Nat → List (String × D) → Sto → Option (List (String × D) × Sto)
  | _, [], s => some ([], s)
  | n, (k, d) :: r, s => (fz n d s).bind fun p => (fzF n r p.2).map fun q => ((k, p.1) :: q.1, q.2)
end
end Fn

set_option linter.all false
namespace Fn
/-! Fn1: terms and what they compute. -/

inductive Ty where | int | bool | str | list | tuple
  deriving DecidableEq
/-- built-ins by their name -/
inductive Blt where
  | len | abs | list | tuple | dict | sorted | sum | any | all | int | str | min | max | minD | maxD | isi (ts : List Ty)
/-- methods of built-in types -/
inductive Bme where
  | append | pop | popAt | index | insert | remove | clear | reverse | get | getD | join | split
/-- where a parameter's value comes from -/
inductive Src where
  | pos (i : Nat) | kw (i : Nat) | dfl (d : D)

mutual
inductive ME where
  | var (i : Nat) | cst (d : D) | glb (x : String) (d : D)
  | bin (op : Bop) (a b : ME)
  | neg (a : ME) | not (a : ME)
  | and (a b : ME) | or (a b : ME)
  | cmp (op : Cop) (a b : ME) | chain (o1 o2 : Cop) (a b c : ME)
  | isN (a : ME) | isntN (a : ME)
  | ite (c a b : ME)
  | tup (es : List ME) | lst (m : Bool) (es : List ME) | dct (m t : Bool) (ks : List ME) (vs : List ME)
  | idx (a i : ME) | slc (m : Bool) (a : ME) (lo hi : Option ME)
  | fld (cs : List String) (a : ME) (f : String)
  /-- g(lambda: e), g the law's own teller of refusals -/
  | why (g : String) (ws : List (String × List Nat × List String)) (e : ME)
  /-- sorted(set(e)) -/
  | sset (m : Bool) (e : ME)
  | call (f : String) (es : List ME) (ks : List String) (kes : List ME) (pl : List Src)
  | meth (c m : String) (o : ME) (es : List ME) (ks : List String) (kes : List ME) (pl : List Src)
  | make (c : String) (es : List ME) (ks : List String) (kes : List ME) (pl : List Src)
  | blt (b : Blt) (m : Bool) (es : List ME)
  | bme (b : Bme) (m : Bool) (o : ME) (es : List ME)
  | lrng (m : Bool) (n : ME)
  | lc (m : Bool) (own : List Nat) (t : Tgt) (it : MI) (ifs : List ME) (r : MC)
  | dc (m b : Bool) (own : List Nat) (k v : ME) (t : Tgt) (it : MI) (ifs : List ME)
  | fst (ps : List ME)
  | xf (f : String)
  | frz (n : Nat) (e : ME)
inductive MC where
  | elt (e : ME)
  | cl (t : Tgt) (it : MI) (ifs : List ME) (r : MC)
inductive MI where
  | it (e : ME) | itl (e : ME) | rng (a : ME) | rng2 (a b : ME) | enum (e : ME) | zip (a b : ME) | zip3 (a b c : ME) | items (e : ME) | vals (e : ME)
inductive Tgt where
  | nm (i : Nat) | tp (ts : List Tgt) | star (ts : List Tgt) (i : Nat) (us : List Tgt) | fl (cs : List String) (o : ME) (f : String) | ix (o i : ME)
end
mutual
inductive MS where
  | asg (ts : List Tgt) (e : ME)
  | aug (t : Tgt) (op : Bop) (e : ME)
  | exp (e : ME)
  | ret (e : Option ME)
  | ifs (c : ME) (a b : List MS)
  | whl (c : ME) (b : List MS)
  | for (t : Tgt) (it : MI) (b : List MS)
  | raise (c : String) (fs : List String) (es : List ME)
  | mul (ts : List Tgt) (es : List ME)
  | try (b : List MS) (hs : List MH)
  | pass
  /-- code that is never come to -/
  | nev
inductive MH where
  | mk (c : String) (nm : Option Nat) (b : List MS)
end

abbrev Env := List (Option D)
def wipe (env : Env) : List Nat → Env
  | [] => env
  | v :: vs => (wipe env vs).set v none

/-! ### built-ins -/
def intsOf : List D → Option (List Int)
  | [] => some []
  | .int i :: r => (intsOf r).map (i :: ·)
  | _ => none
def tupsOf : List D → Option (List (List Int))
  | [] => some []
  | .tup ds :: r => match intsOf ds, tupsOf r with
    | some t, some ts => some (t :: ts)
    | _, _ => none
  | _ => none
def leI (a b : Int) : Bool := decide (a ≤ b)
def leT (a b : List Int) : Bool := !decide (b < a)
def sortD (ds : List D) : Option (List D) := match intsOf ds with
  | some ns => some ((ns.mergeSort leI).map .int)
  | none => match tupsOf ds with
    | some ts => if ts.length < 2 ∨ ts.all (fun t => !t.isEmpty) = true then some ((ts.mergeSort leT).map fun t => .tup (t.map .int)) else none
    | none => none
def boolsOf : List D → Option (List Bool)
  | [] => some []
  | .bl b :: r => (boolsOf r).map (b :: ·)
  | _ => none
/-- what a loop, list(..), sorted(..) walks -/
def itemsOf (d : D) (s : Sto) : Option (List D) := match dctOf d s with
  | some (_, kvs) => some (kvs.map (·.1.d))
  | none => match seqOf d s with
    | some ds => some ds
    | none => match d with
      | .str cs => some (cs.map fun c => .str [c])
      | _ => none
/-- what a for may walk -/
def itemsI (d : D) (s : Sto) : Option (List D) := match dctOf d s with
  | some (false, kvs) => some (kvs.map (·.1.d))
  | some (true, kvs) => some (kvs.map (·.1.d))
  | none => match seqOf d s with
    | some ds => some ds
    | none => match d with
      | .str cs => some (cs.map fun c => .str [c])
      | _ => none
/-- a tuple -/
def tupD : D → Bool
  | .tup _ => true
  | .ktup _ => true
  | _ => false
/-- what sorted(..) takes -/
def srtItems (d : D) (s : Sto) : Option (List D) := match dctOf d s with
  | some (t, kvs) => if t = true ∨ kvs.length < 64 then some (kvs.map (·.1.d)) else none
  | none => lstOf d s
def isTy (d : D) (s : Sto) : Ty → Option Bool := fun t => match d with
  | .non => some false
  | .bl _ => some (t == .bool || t == .int)
  | .int _ => some (t == .int)
  | .str _ => some (t == .str)
  | .tup _ => some (t == .tuple)
  | .ktup _ => some (t == .tuple)
  | .klst _ => some (t == .list)
  | d => match view d s with
    | some (.lst _) => some (t == .list)
    | some (.dct false _) => some false
    | _ => none
def anyTy (d : D) (s : Sto) : List Ty → Option Bool
  | [] => some false
  | t :: r => match isTy d s t, anyTy d s r with
    | some a, some b => some (a || b)
    | _, _ => none
def minL : List Int → Option Int
  | [] => none
  | i :: r => some (r.foldl (fun a b => if b < a then b else a) i)
def maxL : List Int → Option Int
  | [] => none
  | i :: r => some (r.foldl (fun a b => if b > a then b else a) i)
def digitsOf (i : Int) : List Nat := (toString i).toList.map Char.toNat
def natOf (cs : List Nat) : Option Int := if cs ≠ [] ∧ cs.all (fun c => decide (48 ≤ c ∧ c ≤ 57)) = true then some (cs.foldl (fun a c => a * 10 + (c - 48 : Nat)) (0 : Nat) : Nat) else none

def bltE (b : Blt) (m : Bool) (xs : List D) (s : Sto) : R D := match b, xs with
  | .len, [x] => match dctOf x s with
    | some (false, kvs) => .ok (.int kvs.length) s
    | some (true, kvs) => .no
    | none => match seqOf x s with
      | some ds => .ok (.int ds.length) s
      | none => match x with
        | .str cs => if cs.length ≤ lenLine then .ok (.int cs.length) s else .no
        | _ => .no
  | .abs, [.int i] => .ok (.int (if i < 0 then -i else i)) s
  | .list, [x] => match seqOf x s with
    | some ds => mkLst m ds s
    | none => match dctOf x s with
      | some (false, kvs) => mkLst m (kvs.map (·.1.d)) s
      | _ => .no
  | .tuple, [x] => match x with
    | .tup ds => .ok (.tup ds) s
    | x => match lstOf x s with
      | some ds => .ok (.tup ds) s
      | none => .no
  | .dict, [x] => match dctOf x s with
    | some (false, kvs) => mkOb m (.dct false kvs) s
    | _ => .no
  | .sorted, [x] => match srtItems x s with
    | some ds => match sortD ds with
      | some es => mkLst m es s
      | none => .no
    | none => .no
  | .sum, [x] => match lstOf x s with
    | some ds => match intsOf ds with
      | some ns => .ok (.int ns.sum) s
      | none => .no
    | none => .no
  | .any, [x] => match lstOf x s with
    | some ds => match boolsOf ds with
      | some bs => .ok (.bl (bs.any id)) s
      | none => .no
    | none => .no
  | .all, [x] => match lstOf x s with
    | some ds => match boolsOf ds with
      | some bs => .ok (.bl (bs.all id)) s
      | none => .no
    | none => .no
  | .int, [.int i] => .ok (.int i) s
  | .int, [.bl b] => .ok (.int (if b = true then 1 else 0)) s
  | .int, [.str cs] => if cs.length ≤ 640 then (match natOf cs with | some i => .ok (.int i) s | none => .no) else .no
  | .str, [.int i] => if i.natAbs.log2 < 1900 then .ok (.str (digitsOf i)) s else .no
  | .min, [.int i, .int j] => .ok (.int (if j < i then j else i)) s
  | .max, [.int i, .int j] => .ok (.int (if j > i then j else i)) s
  | .min, [x] => match (lstOf x s).bind intsOf with
    | some ns => match minL ns with | some i => .ok (.int i) s | none => .no
    | none => .no
  | .max, [x] => match (lstOf x s).bind intsOf with
    | some ns => match maxL ns with | some i => .ok (.int i) s | none => .no
    | none => .no
  | .minD, [x, d] => match (lstOf x s).bind intsOf with
    | some ns => match minL ns with | some i => .ok (.int i) s | none => .ok d s
    | none => .no
  | .maxD, [x, d] => match (lstOf x s).bind intsOf with
    | some ns => match maxL ns with | some i => .ok (.int i) s | none => .ok d s
    | none => .no
  | .isi ts, [x] => at? ((anyTy x s ts).map .bl) s
  | _, _ => .no

/-- the first place of x -/
def idxOf (x : D) (ds : List D) : Option Nat := if dat 60 x = true ∧ datL 60 ds = true then ds.findIdx? (fun d => peq d x) else none
def bmeE (b : Bme) (m : Bool) (o : D) (xs : List D) (s : Sto) : R D := match b with
  | .append => match o, xs with
    | .loc l, [x] => match s.ob[l]? with
      | some (.lst ds) => if ds.length < lenLine then .ok .non (s.put l (.lst (ds ++ [x])) x) else .no
      | _ => .no
    | _, _ => .no
  | .pop => match o, xs with
    | .loc l, [] => match s.ob[l]? with
      | some (.lst ds) => match ds.getLast? with
        | some x => .ok x (s.put l (.lst ds.dropLast) .non)
        | none => .no
      | _ => .no
    | _, _ => .no
  | .popAt => match o, xs with
    | .loc l, [.int i] => match s.ob[l]? with
      | some (.lst ds) => if 0 ≤ i then match ds[i.toNat]? with
        | some x => .ok x (s.put l (.lst (ds.eraseIdx i.toNat)) .non)
        | none => .no else .no
      | _ => .no
    | _, _ => .no
  | .index => match lstOf o s, xs with
    | some ds, [x] => match idxOf x ds with
      | some n => .ok (.int n) s
      | none => .no
    | _, _ => .no
  | .insert => match o, xs with
    | .loc l, [.int i, x] => match s.ob[l]? with
      | some (.lst ds) => if ds.length < lenLine ∧ 0 ≤ i ∧ i < 2 ^ 62 then .ok .non (s.put l (.lst (ds.take i.toNat ++ x :: ds.drop i.toNat)) x) else .no
      | _ => .no
    | _, _ => .no
  | .clear => match o, xs with
    | .loc l, [] => match s.ob[l]? with
      | some (.lst ds) => .ok .non (s.put l (.lst []) .non)
      | _ => .no
    | _, _ => .no
  | .reverse => match o, xs with
    | .loc l, [] => match s.ob[l]? with
      | some (.lst ds) => .ok .non (s.put l (.lst ds.reverse) .non)
      | _ => .no
    | _, _ => .no
  | .get => match dctOf o s, xs with
    | some (t, kvs), [x] => match gkOf x with
      | some k => if k.isT = t then .ok ((kget kvs k).getD .non) s else .no
      | none => .no
    | _, _ => .no
  | .getD => match dctOf o s, xs with
    | some (t, kvs), [x, d] => match gkOf x with
      | some k => if k.isT = t then .ok ((kget kvs k).getD d) s else .no
      | none => .no
    | _, _ => .no
  | _ => .no

/-- the receiver is of the method's kind -/
def recv (b : Bme) (o : D) (s : Sto) : Bool := match b with
  | .get | .getD => (dctOf o s).isSome
  | .join | .split => match o with | .str _ => true | _ => false
  | .index => (lstOf o s).isSome
  | _ => match view o s with | some (.lst _) => true | _ => false
/-- no exception leaves -/
def R.nox {α : Type} : R α → R α
  | .ok a s => .ok a s
  | _ => .no
@[simp] theorem R.nox_ok {α : Type} (a : α) (s : Sto) : (R.ok a s).nox = .ok a s := rfl
@[simp] theorem R.nox_ex {α : Type} (x : Xn) (s : Sto) : (R.ex x s : R α).nox = .no := rfl
@[simp] theorem R.nox_no {α : Type} : (R.no : R α).nox = .no := rfl
/-! ### targets, loops -/
/-- (several names at once: of values) -/
def bindNames : List Tgt → List D → Env → Option Env
  | [], [], env => some env
  | .nm i :: ts, d :: ds, env => bindNames ts ds (env.set i (some d))
  | _, _, _ => none
/-- the targets of loops: names, tuples of names, tuples of these -/
def bindT : Nat → Tgt → D → Sto → Env → Option Env
  | _, .nm i, d, _, env => some (env.set i (some d))
  | n + 1, .tp ts, d, s, env => match d with
    | .tup ds => if ts.length = ds.length then go n ts ds s env else none
    | _ => none
  | _, _, _, _, _ => none
where
  go : Nat → List Tgt → List D → Sto → Env → Option Env
    | _, [], _, _, env => some env
    | n, t :: ts, d :: ds, s, env => match bindT n t d s env with
      | some env => go n ts ds s env
      | none => none
    | _, _, [], _, _ => none

inductive Flow where | next | ret (d : D)
inductive RS where
  | ok (f : Flow) (e : Env) (s : Sto) | ex (x : Xn) (e : Env) (s : Sto) | no
def R.then {α : Type} (r : R α) (env : Env) (f : α → Sto → RS) : RS := match r with
  | .ok a s => f a s
  | .ex x s => .ex x env s
  | .no => .no
@[simp] theorem R.then_ok {α : Type} (a : α) (s : Sto) (env : Env) (f : α → Sto → RS) : (R.ok a s).then env f = f a s := rfl
@[simp] theorem R.then_ex {α : Type} (x : Xn) (s : Sto) (env : Env) (f : α → Sto → RS) : (R.ex x s : R α).then env f = .ex x env s := rfl
@[simp] theorem R.then_no {α : Type} (env : Env) (f : α → Sto → RS) : (R.no : R α).then env f = .no := rfl

def lock1 (l : Nat) (s : Sto) : Option Nat × Sto := match s.ob[l]? with
  | some (.lk _) => (none, s)
  | some o => (some l, { s with ob := s.ob.set l (.lk o) })
  | none => (none, s)
def lockAll : List Nat → Sto → List Nat × Sto
  | [], s => ([], s)
  | l :: r, s => match lock1 l s with
    | (none, s) => lockAll r s
    | (some l, s) => let p := lockAll r s; (l :: p.1, p.2)
def unlock1 (l : Nat) (s : Sto) : Sto := match s.ob[l]? with
  | some (.lk o) => { s with ob := s.ob.set l o }
  | _ => s
def unlockAll : List Nat → Sto → Sto
  | [], s => s
  | l :: r, s => unlock1 l (unlockAll r s)
def lockOf : D → List Nat
  | .loc l => [l]
  | _ => []

/-- the items' results in a row -/
def lcL (f : D → Sto → R (List D)) : List D → Sto → R (List D)
  | [], s => .ok [] s
  | d :: ds, s => (f d s).bind fun xs s => (lcL f ds s).bind fun ys s => .ok (xs ++ ys) s
def dcL (f : D → Sto → R (GKey × D)) : List D → List (GKey × D) → Sto → R (List (GKey × D))
  | [], acc, s => .ok acc s
  | d :: ds, acc, s => (f d s).bind fun p s => dcL f ds (kput acc p.1 p.2) s
def forL (f : D → Env → Sto → RS) : List D → Env → Sto → RS
  | [], env, s => .ok .next env s
  | d :: ds, env, s => match f d env s with
    | .ok .next env s => forL f ds env s
    | r => r
def whileL (c : Env → Sto → R Bool) (b : Env → Sto → RS) : Nat → Env → Sto → RS
  | 0, _, _ => .no
  | n + 1, env, s => match c env s with
    | .ok true s => match b env s with
      | .ok .next env s => whileL c b n env s
      | r => r
    | .ok false s => .ok .next env s
    | .ex x s => .ex x env s
    | .no => .no
def RS.unlock (ls : List Nat) : RS → RS
  | .ok f e s => .ok f e (unlockAll ls s)
  | .ex x e s => .ex x e (unlockAll ls s)
  | .no => .no

def Src.get (vs zs : List D) : Src → Option D
  | .pos i => vs[i]?
  | .kw i => zs[i]?
  | .dfl d => some d
def srcs (pl : List Src) (vs zs : List D) : Option (List D) := match pl with
  | [] => some []
  | p :: r => match p.get vs zs, srcs r vs zs with
    | some d, some ds => some (d :: ds)
    | _, _ => none

/-- what surrounds: the defs' meaning, the rounds that a while may take, the handled exception, which class is beneath which -/
structure Ctx where
  call : String → List D → Sto → R D
  fuel : Nat
  cur : Option Xn
  sub : String → String → Bool
def Ctx.look (C : Ctx) (x : Xn) : Ctx := { C with cur := some x }

def seqR {α β : Type} (f : α → Sto → R β) : List α → Sto → R (List β)
  | [], s => .ok [] s
  | a :: r, s => (f a s).bind fun b s => (seqR f r s).bind fun bs s => .ok (b :: bs) s
def putAll : List D → List D → List (GKey × D) → Option (List (GKey × D))
  | [], [], acc => some acc
  | k :: ks, v :: vs, acc => match gkOf k with
    | some g => putAll ks vs (kput acc g v)
    | none => none
  | _, _, _ => none
/-- pairs into a dict, later ones win -/
def putPairs : List D → List (GKey × D) → Option (List (GKey × D))
  | [], acc => some acc
  | .tup [k, v] :: r, acc => match gkOf k with
    | some g => putPairs r (kput acc g v)
    | none => none
  | _, _ => none
def strsOf : List D → Option (List Nat)
  | [] => some []
  | .str cs :: r => (strsOf r).map (cs ++ ·)
  | .int i :: r => if i.natAbs.log2 < 1900 then (strsOf r).map (digitsOf i ++ ·) else none
  | _ => none

/-- a field of an instance of one of the classes -/
def fldOf (cs : List String) (x : D) (f : String) (s : Sto) : Option D := (insOf x s).bind fun p => if p.1 ∈ cs then fget p.2 f else none
def putFldC (cs : List String) (x : D) (f : String) (v : D) (s : Sto) : R Unit := match insOf x s with
  | some p => if p.1 ∈ cs then putFld x f v s else .no
  | none => .no
def getsF (fs : List (String × D)) : List String → Option (List D)
  | [] => some []
  | f :: r => match fget fs f, getsF fs r with
    | some d, some ds => some (d :: ds)
    | _, _ => none
/-- what a teller of refusals tells -/
def whyH (sub : String → String → Bool) : List (String × List Nat × List String) → Xn → Option D
  | [], _ => none
  | (c, tag, fs) :: r, x => if sub x.cls c = true then (if fs = [] ∨ x.cls = c then (getsF x.fs fs).map fun ds => .tup (.str tag :: ds) else none) else whyH sub r x
/-- each once, ascending -/
def ssetD (ds : List D) : Option (List D) := match intsOf ds with
  | some ns => some ((ns.eraseDups.mergeSort leI).map .int)
  | none => match tupsOf ds with
    | some ts => some ((ts.eraseDups.mergeSort leT).map fun t => .tup (t.map .int))
    | none => none
mutual
def evE (C : Ctx) : ME → Env → Sto → R D
  | .var i, env, s => match env[i]? with
    | some (some d) => .ok d s
    | _ => .no
  | .cst d, _, s => .ok d s
  | .glb _ d, _, s => .ok d s
  | .bin op a b, env, s => (evE C a env s).bind fun x s => (evE C b env s).bind fun y s => bin op x y s
  | .neg a, env, s => (evE C a env s).bind fun x s => match x with
    | .int i => .ok (.int (-i)) s
    | _ => .no
  | .not a, env, s => (evE C a env s).bind fun x s => at? ((truth x s).map fun b => .bl (!b)) s
  | .and a b, env, s => (evE C a env s).bind fun x s => match truth x s with
    | some true => evE C b env s
    | some false => .ok x s
    | none => .no
  | .or a b, env, s => (evE C a env s).bind fun x s => match truth x s with
    | some true => .ok x s
    | some false => evE C b env s
    | none => .no
  | .cmp op a b, env, s => (evE C a env s).bind fun x s => (evE C b env s).bind fun y s => at? ((cmp op x y s).map .bl) s
  | .chain o1 o2 a b c, env, s => (evE C a env s).bind fun x s => (evE C b env s).bind fun y s => match cmp o1 x y s with
    | some true => (evE C c env s).bind fun z s => at? ((cmp o2 y z s).map .bl) s
    | some false => .ok (.bl false) s
    | none => .no
  | .isN a, env, s => (evE C a env s).bind fun x s => .ok (.bl (match x with | .non => true | _ => false)) s
  | .isntN a, env, s => (evE C a env s).bind fun x s => .ok (.bl (match x with | .non => false | _ => true)) s
  | .ite c a b, env, s => (evE C c env s).bind fun x s => match truth x s with
    | some true => evE C a env s
    | some false => evE C b env s
    | none => .no
  | .tup es, env, s => (evEs C es env s).bind fun ds s => .ok (.tup ds) s
  | .lst m es, env, s => (evEs C es env s).bind fun ds s => mkLst m ds s
  | .dct m t ks vs, env, s => (evEs C ks env s).bind fun kd s => (evEs C vs env s).bind fun vd s => match putAll kd vd [] with
    | some kvs => if kvs.all (fun p => p.1.isT == t) = true ∧ kvs.length ≤ 15 then mkOb m (.dct t kvs) s else .no
    | none => .no
  | .idx a i, env, s => (evE C a env s).bind fun x s => (evE C i env s).bind fun y s => at? (idx x y s) s
  | .slc m a lo hi, env, s => (evE C a env s).bind fun x s => (evO C lo env s).bind fun l s => (evO C hi env s).bind fun h s => slc m x l h s
  | .fld cs a f, env, s => (evE C a env s).bind fun x s => at? (fldOf cs x f s) s
  | .why _ ws e, env, s => match evE C e env s with
    | .ok _ s => .ok (.tup [.str [110, 111, 110, 101]]) s
    | .ex x s => at? (whyH C.sub ws x) s
    | .no => .no
  | .sset m e, env, s => (evE C e env s).bind fun x s => match lstOf x s with
    | some ds => match ssetD ds with
      | some es => mkLst m es s
      | none => .no
    | none => .no
  | .call f es ks kes pl, env, s => (evEs C es env s).bind fun vs s => (evEs C kes env s).bind fun zs s => match srcs pl vs zs with
    | some ds => C.call f ds s
    | none => .no
  | .meth c m o es ks kes pl, env, s => (evE C o env s).bind fun x s => match insOf x s with
    | some (c', fs) => if c' = c ∧ fget fs m = none then (evEs C es env s).bind fun vs s => (evEs C kes env s).bind fun zs s => match srcs pl vs zs with
      | some ds => C.call (c ++ "." ++ m) (x :: ds) s
      | none => .no else .no
    | none => .no
  | .make c es ks kes pl, env, s => (evEs C es env s).bind fun vs s => (evEs C kes env s).bind fun zs s => match srcs pl vs zs with
    | some ds => (C.call (c ++ ".__init__") (.loc s.ob.length :: ds) { s with ob := s.ob ++ [.ins c []] }).bind fun d s' => match d with
      | .non => .ok (.loc s.ob.length) s'
      | _ => .no
    | none => .no
  | .blt b m es, env, s => (evEs C es env s).bind fun xs s => bltE b m xs s
  | .bme b m o es, env, s => (evE C o env s).bind fun x s => if recv b x s = true then (evEs C es env s).bind fun xs s => bmeE b m x xs s else .no
  | .lrng m n, env, s => (evE C n env s).bind fun x s => match x with
    | .int i => if i < 2 ^ 20 then mkLst m ((List.range i.toNat).map fun (k : Nat) => .int (k : Int)) s else .no
    | _ => .no
  | .lc m own t it ifs r, env, s => (evI C it env s).bind fun p s =>
      (lcL (fun d s => match bindT 3 t d s (wipe env own) with
        | some env1 => (evTs C ifs env1 s).bind fun b s => if b = true then evC C r env1 s else .ok [] s
        | none => .no) p.1 (lockAll p.2 s).2).nox.bind fun ds s' => if ds.length ≤ lenLine then mkOb m (.lst ds) (unlockAll (lockAll p.2 s).1 s') else .no
  | .dc m b own k v t it ifs, env, s => (evI C it env s).bind fun p s =>
      (lcL (fun d s => match bindT 3 t d s (wipe env own) with
        | some env1 => (evTs C ifs env1 s).bind fun b s => if b = true then (evE C k env1 s).bind fun kd s => (evE C v env1 s).bind fun vd s => .ok [.tup [kd, vd]] s else .ok [] s
        | none => .no) p.1 (lockAll p.2 s).2).nox.bind fun ds s' => match putPairs ds [] with
          | some kvs => if kvs.all (fun p => p.1.isT == b) = true ∧ kvs.length ≤ 100000 then mkOb m (.dct b kvs) (unlockAll (lockAll p.2 s).1 s') else .no
          | none => .no
  | .fst ps, env, s => (evEs C ps env s).bind fun ds s => match strsOf ds with
    | some cs => if cs.length ≤ lenLine then .ok (.str cs) s else .no
    | none => .no
  | .xf f, _, s => at? (C.cur.bind fun x => fget x.fs f) s
  | .frz n e, env, s => (evE C e env s).bind fun d s => match fz n d s with
    | some (d, s) => .ok d s
    | none => .no
def evEs (C : Ctx) : List ME → Env → Sto → R (List D)
  | [], _, s => .ok [] s
  | e :: r, env, s => (evE C e env s).bind fun d s => (evEs C r env s).bind fun ds s => .ok (d :: ds) s
def evO (C : Ctx) : Option ME → Env → Sto → R (Option Int)
  | none, _, s => .ok none s
  | some e, env, s => (evE C e env s).bind fun d s => match d with
    | .int i => .ok (some i) s
    | _ => .no
/-- the tests of a clause, from the left -/
def evTs (C : Ctx) : List ME → Env → Sto → R Bool
  | [], _, s => .ok true s
  | e :: r, env, s => (evE C e env s).bind fun d s => match truth d s with
    | some true => evTs C r env s
    | some false => .ok false s
    | none => .no
def evI (C : Ctx) : MI → Env → Sto → R (List D × List Nat)
  | .it e, env, s => (evE C e env s).bind fun d s => match itemsI d s with
    | some ds => .ok (ds, lockOf d) s
    | none => .no
  | .itl e, env, s => (evE C e env s).bind fun d s => match seqOf d s with
    | some ds => .ok (ds, lockOf d) s
    | none => .no
  | .rng a, env, s => (evE C a env s).bind fun x s => match x with
    | .int i => if -(2 ^ 62) ≤ i ∧ i < 2 ^ 62 then .ok ((List.range i.toNat).map fun (k : Nat) => .int (k : Int), []) s else .no
    | _ => .no
  | .rng2 a b, env, s => (evE C a env s).bind fun x s => (evE C b env s).bind fun y s => match x, y with
    | .int i, .int j => if -(2 ^ 62) ≤ i ∧ i < 2 ^ 62 ∧ -(2 ^ 62) ≤ j ∧ j < 2 ^ 62 then .ok ((List.range (j - i).toNat).map fun (k : Nat) => .int (i + (k : Int)), []) s else .no
    | _, _ => .no
  | .enum e, env, s => (evE C e env s).bind fun d s => match lstOf d s with
    | some ds => .ok (ds.zipIdx.map fun p => .tup [.int (p.2 : Int), p.1], lockOf d) s
    | none => .no
  | .zip a b, env, s => (evE C a env s).bind fun x s => (evE C b env s).bind fun y s => match seqOf x s, seqOf y s with
    | some ds, some es => if tupD x = tupD y then .ok ((ds.zip es).map fun p => .tup [p.1, p.2], lockOf x ++ lockOf y) s else .no
    | _, _ => .no
  | .zip3 a b c, env, s => (evE C a env s).bind fun x s => (evE C b env s).bind fun y s => (evE C c env s).bind fun z s => match seqOf x s, seqOf y s, seqOf z s with
    | some ds, some es, some fs => .ok ((ds.zip (es.zip fs)).map fun p => .tup [p.1, p.2.1, p.2.2], lockOf x ++ lockOf y ++ lockOf z) s
    | _, _, _ => .no
  | .items e, env, s => (evE C e env s).bind fun d s => match dctOf d s with
    | some (false, kvs) => .ok (kvs.map fun p => .tup [p.1.d, p.2], lockOf d) s
    | _ => .no
  | .vals e, env, s => (evE C e env s).bind fun d s => match dctOf d s with
    | some (false, kvs) => .ok (kvs.map (·.2), lockOf d) s
    | _ => .no
/-- the further clauses of a comprehension, then its item -/
def evC (C : Ctx) : MC → Env → Sto → R (List D)
  | .elt e, env, s => (evE C e env s).bind fun d s => .ok [d] s
  | .cl t it ifs r, env, s => (evI C it env s).bind fun p s =>
      (lcL (fun d s => match bindT 3 t d s env with
        | some env1 => (evTs C ifs env1 s).bind fun b s => if b = true then evC C r env1 s else .ok [] s
        | none => .no) p.1 (lockAll p.2 s).2).bind fun ds s' => .ok ds (unlockAll (lockAll p.2 s).1 s')
end
end Fn

set_option linter.all false
namespace Fn
/-! Fn2: statements, defs. -/
/-- v goes to a target -/
def asgT (C : Ctx) : Tgt → D → Env → Sto → R Env
  | .nm i, d, env, s => .ok (env.set i (some d)) s
  | .tp ts, d, env, s => match seqOf d s with
    | some ds => if tupD d = true then at? (bindNames ts ds env) s else .no
    | none => .no
  | .star ts i us, d, env, s => match seqOf d s with
    | some ds => if ts.length + us.length ≤ ds.length then
        at? (((bindNames ts (ds.take ts.length) env).map fun env => env.set i (some (.frz (.lst ((ds.drop ts.length).take (ds.length - ts.length - us.length)))))).bind fun env => bindNames us (ds.drop (ds.length - us.length)) env) s
      else .no
    | none => .no
  | .fl cs o f, d, env, s => (evE C o env s).bind fun x s => (putFldC cs x f d s).bind fun _ s => .ok env s
  | .ix o i, d, env, s => (evE C o env s).bind fun x s => (evE C i env s).bind fun y s => (putIx x y d s).bind fun _ s => .ok env s
def asgTs (C : Ctx) : List Tgt → D → Env → Sto → R Env
  | [], _, env, s => .ok env s
  | t :: ts, d, env, s => (asgT C t d env s).bind fun env s => asgTs C ts d env s
/-- a tuple's items go to targets of any kind -/
def asgEach (C : Ctx) : List Tgt → List D → Env → Sto → R Env
  | [], [], env, s => .ok env s
  | t :: ts, d :: ds, env, s => (asgT C t d env s).bind fun env s => asgEach C ts ds env s
  | _, _, _, _ => .no
def simpleT : Tgt → Bool
  | .nm _ => true
  | _ => false
/-- in place: numbers, texts -/
def abin (op : Bop) (x y : D) (s : Sto) : R D := match op, x, y with
  | .add, .int i, .int j => .ok (.int (i + j)) s
  | .sub, .int i, .int j => .ok (.int (i - j)) s
  | .add, .str a, .str b => if a.length + b.length ≤ lenLine then .ok (.str (a ++ b)) s else .no
  | _, _, _ => .no
/-- t op= v -/
def augT (C : Ctx) (op : Bop) : Tgt → (Sto → R D) → Env → Sto → R Env
  | .nm i, v, env, s => match env[i]? with
    | some (some x) => (v s).bind fun y s => (abin op x y s).bind fun z s => .ok (env.set i (some z)) s
    | _ => .no
  | .fl cs o f, v, env, s => (evE C o env s).bind fun x s => match fldOf cs x f s with
    | some old => (v s).bind fun y s => (abin op old y s).bind fun z s => (putFldC cs x f z s).bind fun _ s => .ok env s
    | none => .no
  | .ix o i, v, env, s => (evE C o env s).bind fun x s => (evE C i env s).bind fun k s => match idx x k s with
    | some old => (v s).bind fun y s => (abin op old y s).bind fun z s => (putIx x k z s).bind fun _ s => .ok env s
    | none => .no
  | _, _, _, _ => .no

/-- loops that exceptions may leave -/
def MI.sq : MI → Bool
  | .itl _ => true
  | .enum _ => true
  | _ => false
/-- no exception leaves a loop -/
def RS.nox : RS → RS
  | .ok f e s => .ok f e s
  | _ => .no
def RS.noxI (r : RS) (b : Bool) : RS := if b = true then r else r.nox
mutual
def evS (C : Ctx) : MS → Env → Sto → RS
  | .asg ts e, env, s => (evE C e env s).then env fun d s => (asgTs C ts d env s).then env fun env s => .ok .next env s
  | .mul ts es, env, s => (evEs C es env s).then env fun ds s => (at? (bindNames ts ds env) s).then env fun env s => .ok .next env s
  | .aug t op e, env, s => (augT C op t (evE C e env) env s).then env fun env s => .ok .next env s
  | .exp e, env, s => (evE C e env s).then env fun _ s => .ok .next env s
  | .ret none, env, s => .ok (.ret .non) env s
  | .ret (some e), env, s => (evE C e env s).then env fun d s => .ok (.ret d) env s
  | .ifs c a b, env, s => (evE C c env s).then env fun d s => match truth d s with
    | some true => evSs C a env s
    | some false => evSs C b env s
    | none => .no
  | .whl c b, env, s => whileL (fun env s => (evE C c env s).bind fun d s => at? (truth d s) s) (fun env s => evSs C b env s) C.fuel env s
  | .for t it b, env, s => (evI C it env s).then env fun p s =>
      ((forL (fun d env s => match bindT 3 t d s env with
        | some env => evSs C b env s
        | none => .no) p.1 env (lockAll p.2 s).2).noxI it.sq).unlock (lockAll p.2 s).1
  | .raise c fs es, env, s => (evEs C es env s).then env fun ds s => if fs.length = ds.length ∨ fs = [] then .ex ⟨c, fs.zip ds⟩ env s else .no
  | .try b hs, env, s => match evSs C b env s with
    | .ex x env s => evHs C hs x env s
    | r => r
  | .pass, env, s => .ok .next env s
  | .nev, _, _ => .no
def evSs (C : Ctx) : List MS → Env → Sto → RS
  | [], env, s => .ok .next env s
  | m :: r, env, s => match evS C m env s with
    | .ok .next env s => evSs C r env s
    | r => r
/-- the except clauses, from above -/
def evHs (C : Ctx) : List MH → Xn → Env → Sto → RS
  | [], x, env, s => .ex x env s
  | .mk c nm b :: r, x, env, s => if C.sub x.cls c = true then (match evSs (C.look x) b env s with
      | .ok f env s => .ok f (match nm with | some i => env.set i none | none => env) s
      | _ => .no)
    else evHs C r x env s
end

/-- a def: its parameters' count, its slots' count, its body -/
structure Fd where
  np : Nat
  ns : Nat
  body : List MS
/-- a program: its defs, the classes of exceptions -/
structure Pg where
  fn : String → Option Fd
  sub : String → String → Bool
  fuel : Nat

def fin (s₀ : Sto) : RS → R D
  | .ok f _ s =>
    let d := match f with | .ret d => d | .next => .non
    if d.lf = true ∧ s.esc = false then .ok d { ob := s.ob.take s₀.ob.length, base := s₀.base, esc := s₀.esc }
    else .ok d { ob := s.ob, base := s₀.base, esc := s₀.esc || s.esc }
  | .ex x _ s =>
    if D.lfF x.fs = true ∧ s.esc = false then .ex x { ob := s.ob.take s₀.ob.length, base := s₀.base, esc := s₀.esc }
    else .ex x { ob := s.ob, base := s₀.base, esc := s₀.esc || s.esc }
  | .no => .no
/-- what the def f answers, within n calls one in another -/
def sem (G : Pg) : Nat → String → List D → Sto → R D
  | 0, _, _, _ => .no
  | n + 1, f, ds, s => match G.fn f with
    | some fd => if ds.length = fd.np then
        fin s (evSs ⟨sem G n, G.fuel, none, G.sub⟩ fd.body (ds.map some ++ List.replicate (fd.ns - fd.np) none) { s with base := s.ob.length, esc := false })
      else .no
    | none => .no
end Fn

set_option Elab.async false
set_option linter.all false
set_option maxRecDepth 100000
namespace Fn
open PySem L2

abbrev sOf (x : String) : Str := Str.ofString x
def cOf (cs : List Nat) : Str := ⟨cs.toArray⟩
def Ky.k : Ky → Key
  | .i n => .inl n
  | .s cs => .inr (cOf cs)

/-- the world: the addresses that never change again with what stands there; the places' addresses; how many places there are -/
structure Wd where
  fz : Addr → Option HO
  bt : Nat → Addr
  n : Nat
  /-- what a surrounding step keeps for itself -/
  fr : Addr → Option HO
  /-- what a loop walks -/
  lc : Addr → Option HO

/-- the text's classes -/
structure Nm where
  cls : String → Addr
  /-- the tables of code objects: where, the name -/
  tb : List (Addr × Str)
  /-- the classes of exceptions that are raised -/
  ex : List String

variable (K : PySem.W.Frag) (M : Nm) (W : Wd)
mutual
/-- the value v is the data d -/
inductive Rl : V → D → Prop
  | non : Rl .non .non
  | bl {b} : Rl (.bl b) (.bl b)
  | int {i} : Rl (.int i) (.int i)
  | str {cs} : Rl (.str (cOf cs)) (.str cs)
  | tup {a vs ds} : W.fz a = some (.tup vs) → RlL vs ds → Rl (.ref a) (.tup ds)
  | ktup {a vs ds} : (∀ H, SqT K H a vs) → RlL vs ds → Rl (.ref a) (.ktup ds)
  | klst {a vs ds} : ((W.fz a = some (.lst vs) ∨ ∃ o, W.fz a = some (.frz o (.lst vs))) ∨ ∀ H, SqL K H a vs) → RlL vs ds → Rl (.ref a) (.klst ds)
  | frz {a ho o} : W.fz a = some ho → RlO ho o → Rl (.ref a) (.frz o)
  | loc {l} : l < W.n → Rl (.ref (W.bt l)) (.loc l)
inductive RlL : List V → List D → Prop
  | nil : RlL [] []
  | cons {v d vs ds} : Rl v d → RlL vs ds → RlL (v :: vs) (d :: ds)
inductive RlO : HO → Ob → Prop
  | lst {vs ds} : RlL vs ds → RlO (.lst vs) (.lst ds)
  | dk {kvs es} : RlK kvs es → RlO (.dK kvs) (.dct false es)
  | dt {kvs es} : RlT kvs es → RlO (.dT kvs) (.dct true es)
  | ins {c dx fs es} : RlF fs es → RlO (.ins (M.cls c) dx fs) (.ins c es)
inductive RlK : List (Key × V) → List (GKey × D) → Prop
  | nil : RlK [] []
  | cons {k v d vs ds} : Rl v d → RlK vs ds → RlK ((k.k, v) :: vs) ((GKey.one k, d) :: ds)
inductive RlT : List (List Key × V) → List (GKey × D) → Prop
  | nil : RlT [] []
  | cons {k v d vs ds} : Rl v d → RlT vs ds → RlT ((k.map Ky.k, v) :: vs) ((GKey.tp k, d) :: ds)
inductive RlF : List (Str × V) → List (String × D) → Prop
  | nil : RlF [] []
  | cons {f v d vs ds} : Rl v d → RlF vs ds → RlF ((sOf f, v) :: vs) ((f, d) :: ds)
end

/-- a later world -/
structure Le (W W' : Wd) : Prop where
  fz : ∀ a o, W.fz a = some o → W'.fz a = some o
  n : W.n ≤ W'.n
  bt : ∀ l, l < W.n → W'.bt l = W.bt l
  fr : W'.fr = W.fr
  lc : W'.lc = W.lc
section
variable {K : PySem.W.Frag} {M : Nm} {W W' W2 : Wd}
theorem Le.refl : Le W W := ⟨fun _ _ h => h, Nat.le_refl _, fun _ _ => rfl, rfl, rfl⟩
theorem Le.trans (a : Le W W') (b : Le W' W2) : Le W W2 := ⟨fun x o h => b.fz x o (a.fz x o h), Nat.le_trans a.n b.n, fun l h => (b.bt l (Nat.lt_of_lt_of_le h a.n)).trans (a.bt l h), b.fr.trans a.fr, b.lc.trans a.lc⟩
mutual
theorem Rl.mono (L : Le W W') : ∀ {v : V} {d : D}, Rl K M W v d → Rl K M W' v d
  | _, _, .non => .non
  | _, _, .bl => .bl
  | _, _, .int => .int
  | _, _, .str => .str
  | _, _, .tup h r => .tup (L.fz _ _ h) (RlL.mono L r)
  | _, _, .ktup h r => .ktup h (RlL.mono L r)
  | _, _, .klst h r => .klst (h.elim (fun z => .inl (z.imp (fun q => L.fz _ _ q) fun ⟨o, q⟩ => ⟨o, L.fz _ _ q⟩)) .inr) (RlL.mono L r)
  | _, _, .frz h r => .frz (L.fz _ _ h) (RlO.mono L r)
  | _, _, .loc (l := l) h => by
    rw [← L.bt l h]
    exact .loc (Nat.lt_of_lt_of_le h L.n)
theorem RlL.mono (L : Le W W') : ∀ {vs : List V} {ds : List D}, RlL K M W vs ds → RlL K M W' vs ds
  | _, _, .nil => .nil
  | _, _, .cons a b => .cons (Rl.mono L a) (RlL.mono L b)
theorem RlO.mono (L : Le W W') : ∀ {v : HO} {d : Ob}, RlO K M W v d → RlO K M W' v d
  | _, _, .lst r => .lst (RlL.mono L r)
  | _, _, .dk r => .dk (RlK.mono L r)
  | _, _, .dt r => .dt (RlT.mono L r)
  | _, _, .ins r => .ins (RlF.mono L r)
theorem RlK.mono (L : Le W W') : ∀ {vs : List (Key × V)} {ds : List (GKey × D)}, RlK K M W vs ds → RlK K M W' vs ds
  | _, _, .nil => .nil
  | _, _, .cons a b => .cons (Rl.mono L a) (RlK.mono L b)
theorem RlT.mono (L : Le W W') : ∀ {vs : List (List Key × V)} {ds : List (GKey × D)}, RlT K M W vs ds → RlT K M W' vs ds
  | _, _, .nil => .nil
  | _, _, .cons a b => .cons (Rl.mono L a) (RlT.mono L b)
theorem RlF.mono (L : Le W W') : ∀ {vs : List (Str × V)} {ds : List (String × D)}, RlF K M W vs ds → RlF K M W' vs ds
  | _, _, .nil => .nil
  | _, _, .cons a b => .cons (Rl.mono L a) (RlF.mono L b)
end

/-! without locations inside the count of places does not matter -/
mutual
theorem Rl.cut {n : Nat} : ∀ {v : V} {d : D}, Rl K M W v d → d.lf = true → Rl K M ⟨W.fz, W.bt, n, W.fr, W.lc⟩ v d
  | _, _, .non, _ => .non
  | _, _, .bl, _ => .bl
  | _, _, .int, _ => .int
  | _, _, .str, _ => .str
  | _, _, .tup h r, e => .tup h (RlL.cut r (by simpa [D.lf] using e))
  | _, _, .ktup h r, e => .ktup h (RlL.cut r (by simpa [D.lf] using e))
  | _, _, .klst h r, e => .klst h (RlL.cut r (by simpa [D.lf] using e))
  | _, _, .frz h r, e => .frz h (RlO.cut r (by simpa [D.lf] using e))
  | _, _, .loc h, e => by simp [D.lf] at e
theorem RlL.cut {n : Nat} : ∀ {vs : List V} {ds : List D}, RlL K M W vs ds → D.lfL ds = true → RlL K M ⟨W.fz, W.bt, n, W.fr, W.lc⟩ vs ds
  | _, _, .nil, _ => .nil
  | _, _, .cons a b, e => by
    simp only [D.lfL, Bool.and_eq_true] at e
    exact .cons (Rl.cut a e.1) (RlL.cut b e.2)
theorem RlO.cut {n : Nat} : ∀ {v : HO} {d : Ob}, RlO K M W v d → d.lf = true → RlO K M ⟨W.fz, W.bt, n, W.fr, W.lc⟩ v d
  | _, _, .lst r, e => .lst (RlL.cut r (by simpa [Ob.lf] using e))
  | _, _, .dk r, e => .dk (RlK.cut r (by simpa [Ob.lf] using e))
  | _, _, .dt r, e => .dt (RlT.cut r (by simpa [Ob.lf] using e))
  | _, _, .ins r, e => .ins (RlF.cut r (by simpa [Ob.lf] using e))
theorem RlK.cut {n : Nat} : ∀ {vs : List (Key × V)} {ds : List (GKey × D)}, RlK K M W vs ds → D.lfK ds = true → RlK K M ⟨W.fz, W.bt, n, W.fr, W.lc⟩ vs ds
  | _, _, .nil, _ => .nil
  | _, _, .cons a b, e => by
    simp only [D.lfK, Bool.and_eq_true] at e
    exact .cons (Rl.cut a e.1) (RlK.cut b e.2)
theorem RlT.cut {n : Nat} : ∀ {vs : List (List Key × V)} {ds : List (GKey × D)}, RlT K M W vs ds → D.lfK ds = true → RlT K M ⟨W.fz, W.bt, n, W.fr, W.lc⟩ vs ds
  | _, _, .nil, _ => .nil
  | _, _, .cons a b, e => by
    simp only [D.lfK, Bool.and_eq_true] at e
    exact .cons (Rl.cut a e.1) (RlT.cut b e.2)
theorem RlF.cut {n : Nat} : ∀ {vs : List (Str × V)} {ds : List (String × D)}, RlF K M W vs ds → D.lfF ds = true → RlF K M ⟨W.fz, W.bt, n, W.fr, W.lc⟩ vs ds
  | _, _, .nil, _ => .nil
  | _, _, .cons a b, e => by
    simp only [D.lfF, Bool.and_eq_true] at e
    exact .cons (Rl.cut a e.1) (RlF.cut b e.2)
end
end

/-! ### the state -/
def isDct : HO → Bool
  | .dK _ => true
  | .dT _ => true
  | _ => false
/-- what stands at a; a dict may be locked by a loop -/
def RdX (H : Hp) (a : Addr) (ho : HO) : Prop := H a = some ho ∨ (isDct ho = true ∧ ∃ o, H a = some (.frz o ho))
abbrev Wd.cut (W : Wd) (m : Nat) : Wd := ⟨W.fz, W.bt, m, W.fr, W.lc⟩
/-- an object that is no table, no code object -/
structure NT (o : HO) : Prop where
  t : ∀ ps, o ≠ .tbl ps
  e : ∀ f, o ≠ .ext f
section
variable (K : PySem.W.Frag) (M : Nm) (W : Wd) (H : Hp)
/-- an object of the store at its address -/
inductive ObR (a : Addr) : Ob → Prop
  | live {ho o} : H a = some ho → RlO K M W ho o → W.fz a = none → ObR a o
  | lkL {vs ds} : H a = some (.lst vs) → RlL K M W vs ds → W.fz a = none → ObR a (.lk (.lst ds))
  | lkD {od ho o} : H a = some (.frz od ho) → isDct ho = true → RlO K M W ho o → W.fz a = none → ObR a (.lk o)
  | dead {u} : H a = some u → NT u → ObR a .dead
/-- the tables of code objects stand; what is told of the others is none of them -/
structure TbI (W : Wd) (H : Hp) : Prop where
  tabs : LamX.Tabs M.tb H
  fz : ∀ a ho, W.fz a = some ho → NT ho
  fr : ∀ a ho, W.fr a = some ho → NT ho ∧ ∀ xs, ho ≠ .tup xs
  lc : ∀ a ho, W.lc a = some ho → NT ho
/-- g: marks of the callers: objects below such a mark name no place beyond it -/
structure StR (g : Nat → Prop) (s : Sto) : Prop where
  fz : ∀ a ho, W.fz a = some ho → RdX H a ho
  len : s.ob.length = W.n
  ob : ∀ l o, s.ob[l]? = some o → ObR K M W H (W.bt l) o
  inj : ∀ l l', l < W.n → l' < W.n → W.bt l = W.bt l' → l = l'
  base : s.base ≤ W.n
  fr : ∀ a ho, W.fr a = some ho → H a = some ho ∧ W.fz a = none ∧ ∀ l, l < W.n → W.bt l ≠ a
  lc : ∀ a ho, W.lc a = some ho → H a = some ho ∧ isDct ho = false ∧ W.fr a = none ∧ ∀ l, l < W.n → W.bt l = a → s.ob[l]? = some .dead ∨ ∃ o, s.ob[l]? = some (.lk o)
  lk : ∀ l o, s.ob[l]? = some (.lk o) → W.lc (W.bt l) ≠ none
  old : s.esc = false → ∀ m, g m → m ≤ s.base → ∀ l o, l < m → s.ob[l]? = some o → ObR K M (W.cut m) H (W.bt l) o
  tb : TbI M W H
end
section
variable {K : PySem.W.Frag} {M : Nm} {W W' : Wd} {H H' : Hp} {g : Nat → Prop} {s : Sto} {a p : Addr} {o : Ob} {ho : HO}
theorem ObR.some (h : ObR K M W H a o) : H a ≠ none := by
  cases h with
  | live e => rw [e]; simp
  | lkL e => rw [e]; simp
  | lkD e => rw [e]; simp
  | dead e _ => rw [e]; simp
theorem RdX.some {H : Hp} {a : Addr} {ho : HO} (h : RdX H a ho) : H a ≠ none := by
  rcases h with e | ⟨_, o, e⟩ <;> rw [e] <;> simp
theorem RdX.upd {H : Hp} {a b : Addr} {ho u : HO} (h : RdX H a ho) (n : a ≠ b) : RdX (L2.upd H b u) a ho := by
  rcases h with e | ⟨i, o, e⟩
  · exact .inl (by rw [upd_ne n]; exact e)
  · exact .inr ⟨i, o, by rw [upd_ne n]; exact e⟩
theorem RdX.rd {H : Hp} {a : Addr} {ho : HO} (h : RdX H a ho) : Rd H a ho := by
  rcases h with e | ⟨_, e⟩
  · exact .inl e
  · exact .inr e
theorem ObR.upd (h : ObR K M W H a o) {b : Addr} {u : HO} (n : a ≠ b) (W' : Wd) (L : Le W W') (hz : W.fz a = none → W'.fz a = none) : ObR K M W' (L2.upd H b u) a o := by
  cases h with
  | live e r z => exact .live (by rw [upd_ne n]; exact e) (r.mono L) (hz z)
  | lkL e r z => exact .lkL (by rw [upd_ne n]; exact e) (r.mono L) (hz z)
  | lkD e i r z => exact .lkD (by rw [upd_ne n]; exact e) i (r.mono L) (hz z)
  | dead e n1 => exact .dead (by rw [upd_ne n]; exact e) n1
theorem StR.bt_lt (S : StR K M W H g s) {l : Nat} (h : l < W.n) : ∃ o, s.ob[l]? = some o := by
  rw [← S.len] at h
  exact ⟨_, List.getElem?_eq_getElem h⟩
theorem StR.bt_ne (S : StR K M W H g s) (hp : H p = none) {l : Nat} (h : l < W.n) : W.bt l ≠ p := by
  obtain ⟨o, e⟩ := S.bt_lt h
  intro q
  exact (S.ob l o e).some (by rw [q]; exact hp)
theorem StR.fz_none (S : StR K M W H g s) (hp : H p = none) : W.fz p = none := by
  cases e : W.fz p with
  | none => rfl
  | some ho => exact absurd hp (S.fz p ho e).some
theorem ob_lt {s : Sto} {l : Nat} {o : Ob} (e : s.ob[l]? = some o) : l < s.ob.length := (List.getElem?_eq_some_iff.mp e).1
theorem StR.lt (S : StR K M W H g s) {l : Nat} (e : s.ob[l]? = some o) : l < W.n := by
  rw [← S.len]; exact ob_lt e

theorem RlO.nt {W : Wd} (r : RlO K M W ho o) : NT ho := by cases r <;> exact ⟨fun _ z => (nomatch z), fun _ z => (nomatch z)⟩
theorem RlO.nup {W : Wd} (r : RlO K M W ho o) : ∀ xs, ho ≠ .tup xs := by cases r <;> exact fun _ z => (nomatch z)
theorem NT.frz {od : Obj} {u : HO} : NT (.frz od u) := ⟨fun _ z => (nomatch z), fun _ z => (nomatch z)⟩
theorem TabS.updS {P : Addr} {q : Str} {u : HO} (t : LamX.TabS H P q) (n : ∀ o, H p = some o → NT o) : LamX.TabS (upd H p u) P q := by
  obtain ⟨ps, h1, h2, h3⟩ := t
  refine ⟨ps, by rw [upd_ne (fun z => (n _ (by rw [← z]; exact h1)).t ps rfl)]; exact h1, h2, fun pos cv hc => ?_⟩
  obtain ⟨c, e1, e2⟩ := h3 pos cv hc
  exact ⟨c, e1, by rw [upd_ne (fun z => (n _ (by rw [← z]; exact e2)).e _ rfl)]; exact e2⟩
theorem TbI.wd (t : TbI M W H) (h1 : ∀ a o, W'.fz a = some o → W.fz a = some o ∨ NT o) (h2 : ∀ a o, W'.fr a = some o → W.fr a = some o ∨ (NT o ∧ ∀ xs, o ≠ .tup xs)) (h3 : ∀ a o, W'.lc a = some o → W.lc a = some o ∨ NT o) : TbI M W' H :=
  ⟨t.tabs, fun a o h => (h1 a o h).elim (t.fz a o) id, fun a o h => (h2 a o h).elim (t.fr a o) id, fun a o h => (h3 a o h).elim (t.lc a o) id⟩
theorem TbI.upd {u : HO} (t : TbI M W H) (n : ∀ o, H p = some o → NT o) : TbI M W (upd H p u) := ⟨fun q hq => TabS.updS (t.tabs q hq) n, t.fz, t.fr, t.lc⟩
theorem nt_none {H : Hp} (h : H p = none) : ∀ o, H p = some o → NT o := fun o e => by rw [h] at e; cases e
theorem ite_some {α : Type} {c : Prop} [Decidable c] {x : Option α} {y : Option α} {z : α} (h : (if c then x else y) = some z) : x = some z ∨ y = some z := by
  split at h
  · exact .inl h
  · exact .inr h
theorem ObR.nt2 (h : ObR K M W H a o) : ∀ u, H a = Option.some u → NT u := fun u e => by
  cases h with
  | live e1 r => rw [e] at e1; cases e1; exact r.nt
  | lkL e1 => rw [e] at e1; cases e1; exact ⟨fun _ z => (nomatch z), fun _ z => (nomatch z)⟩
  | lkD e1 => rw [e] at e1; cases e1; exact .frz
  | dead e1 n1 => rw [e] at e1; cases e1; exact n1
theorem ObR.nt (h : ObR K M W H a o) (hd : o ≠ .dead) : ∀ u, H a = Option.some u → NT u := h.nt2
/-- a new object that never changes -/
def Wd.addF (W : Wd) (p : Addr) (ho : HO) : Wd := ⟨fun a => if a = p then some ho else W.fz a, W.bt, W.n, W.fr, W.lc⟩
theorem Wd.addF_le (hp : W.fz p = none) : Le W (W.addF p ho) := ⟨fun a o h => by
  show (if a = p then some ho else W.fz a) = some o
  rw [if_neg (fun q => by rw [q, hp] at h; cases h)]
  exact h, Nat.le_refl _, fun _ _ => rfl, rfl, rfl⟩
theorem Wd.addF_at : (W.addF p ho).fz p = some ho := if_pos rfl
theorem Wd.addF_cut {m : Nat} : (W.addF p ho).cut m = (W.cut m).addF p ho := rfl
theorem StR.addF (S : StR K M W H g s) (hp : H p = none) (nt : NT ho := by exact ⟨fun _ z => (nomatch z), fun _ z => (nomatch z)⟩) : StR K M (W.addF p ho) (upd H p ho) g s := by
  have hz := S.fz_none hp
  have nb : ∀ {l}, l < W.n → W.bt l ≠ p := fun h => S.bt_ne hp h
  refine ⟨fun a u e => ?_, S.len, fun l o e => (S.ob l o e).upd (nb (S.lt e)) _ (Wd.addF_le hz) fun z => ?_, S.inj, S.base, fun a u q => ?_, fun a u q => ?_, S.lk, fun he m hg hm l o hl e => ?_, (S.tb.upd (nt_none hp)).wd (fun a o h => (ite_some h).elim (fun h => .inr (by cases h; exact nt)) .inl) (fun a o h => .inl h) (fun a o h => .inl h)⟩
  · have e : (if a = p then some ho else W.fz a) = some u := e
    by_cases q : a = p
    · rw [if_pos q] at e
      cases e
      rw [q]
      exact .inl upd_same
    · rw [if_neg q] at e
      exact (S.fz a u e).upd q
  · show (if W.bt l = p then some ho else W.fz (W.bt l)) = none
    rw [if_neg (nb (S.lt e))]
    exact z
  · have q : W.fr a = some u := q
    obtain ⟨q1, q2, q3⟩ := S.fr a u q
    have n : a ≠ p := fun z => by rw [z, hp] at q1; cases q1
    refine ⟨by rw [upd_ne n]; exact q1, ?_, q3⟩
    show (if a = p then some ho else W.fz a) = none
    rw [if_neg n]
    exact q2
  · have q : W.lc a = some u := q
    obtain ⟨q1, q2, q3, q4⟩ := S.lc a u q
    have n : a ≠ p := fun z => by rw [z, hp] at q1; cases q1
    exact ⟨by rw [upd_ne n]; exact q1, q2, q3, q4⟩
  · refine (S.old he m hg hm l o hl e).upd (nb (S.lt e)) _ (Wd.addF_le (W := W.cut m) hz) fun z => ?_
    show (if W.bt l = p then some ho else W.fz (W.bt l)) = none
    rw [if_neg (nb (S.lt e))]
    exact z
/-- a new place -/
def Wd.addL (W : Wd) (p : Addr) : Wd := ⟨W.fz, fun l => if l = W.n then p else W.bt l, W.n + 1, W.fr, W.lc⟩
theorem Wd.addL_le : Le W (W.addL p) := ⟨fun _ _ h => h, Nat.le_succ _, fun l h => if_neg (Nat.ne_of_lt h), rfl, rfl⟩
theorem Wd.addL_at : (W.addL p).bt W.n = p := if_pos rfl
theorem StR.addL (S : StR K M W H g s) (hp : H p = none) (r : RlO K M W ho o) : StR K M (W.addL p) (upd H p ho) g { s with ob := s.ob ++ [o] } := by
  have hz := S.fz_none hp
  have nb : ∀ {l}, l < W.n → W.bt l ≠ p := fun h => S.bt_ne hp h
  have bt : ∀ {l}, l < W.n → (W.addL p).bt l = W.bt l := fun h => Wd.addL_le.bt _ h
  have old : ∀ {l u}, (s.ob ++ [o])[l]? = some u → l < W.n → s.ob[l]? = some u := fun {l u} e h => by
    rw [List.getElem?_append_left (by rw [S.len]; exact h)] at e
    exact e
  refine ⟨fun a u e => ?_, ?_, fun l u e => ?_, fun l l' h h' e => ?_, Nat.le_succ_of_le S.base, fun a u q => ?_, fun a u q => ?_, fun l u e => ?_, fun he m hg hm l u hl e => ?_, (S.tb.upd (nt_none hp)).wd (fun a o h => .inl h) (fun a o h => .inl h) (fun a o h => .inl h)⟩
  · have e : W.fz a = some u := e
    exact (S.fz a u e).upd fun q => by rw [q, hz] at e; cases e
  · show (s.ob ++ [o]).length = W.n + 1
    rw [List.length_append, S.len]
    rfl
  · have e : (s.ob ++ [o])[l]? = some u := e
    by_cases h : l < W.n
    · rw [bt h]
      exact (S.ob l u (old e h)).upd (nb h) _ Wd.addL_le fun z => z
    · have hl : l = W.n := by
        have := (List.getElem?_eq_some_iff.mp e).1
        rw [List.length_append, S.len] at this
        simp at this
        omega
      subst hl
      rw [List.getElem?_append_right (by rw [S.len]; exact Nat.le_refl _), S.len, Nat.sub_self] at e
      cases e
      rw [Wd.addL_at]
      exact .live upd_same (r.mono Wd.addL_le) hz
  · have h : l < W.n + 1 := h
    have h' : l' < W.n + 1 := h'
    by_cases q : l = W.n
    · by_cases q' : l' = W.n
      · rw [q, q']
      · rw [bt (by omega : l' < W.n), q, Wd.addL_at] at e
        exact absurd e.symm (nb (by omega))
    · by_cases q' : l' = W.n
      · rw [bt (by omega : l < W.n), q', Wd.addL_at] at e
        exact absurd e (nb (by omega))
      · rw [bt (by omega : l < W.n), bt (by omega : l' < W.n)] at e
        exact S.inj l l' (by omega) (by omega) e
  · obtain ⟨q1, q2, q3⟩ := S.fr a u q
    have n : a ≠ p := fun z => by rw [z, hp] at q1; cases q1
    refine ⟨by rw [upd_ne n]; exact q1, q2, fun l h => ?_⟩
    have h : l < W.n + 1 := h
    by_cases z : l = W.n
    · rw [z, Wd.addL_at]; exact n.symm
    · rw [bt (by omega)]; exact q3 l (by omega)
  · obtain ⟨q1, q2, q3, q4⟩ := S.lc a u q
    have n : a ≠ p := fun z => by rw [z, hp] at q1; cases q1
    refine ⟨by rw [upd_ne n]; exact q1, q2, q3, fun l h eb => ?_⟩
    have h : l < W.n + 1 := h
    by_cases z : l = W.n
    · rw [z, Wd.addL_at] at eb; exact absurd eb.symm n
    · rw [bt (by omega)] at eb
      rcases q4 l (by omega) eb with h4 | ⟨o', h4⟩
      · exact .inl ((List.getElem?_append_left (ob_lt h4)).trans h4)
      · exact .inr ⟨o', (List.getElem?_append_left (ob_lt h4)).trans h4⟩
  · have e : (s.ob ++ [o])[l]? = some (.lk u) := e
    by_cases z : l < W.n
    · rw [bt z]; exact S.lk l u (old e z)
    · exfalso
      have hl : l = W.n := by
        have := (List.getElem?_eq_some_iff.mp e).1
        rw [List.length_append, S.len] at this
        simp at this
        omega
      subst hl
      rw [List.getElem?_append_right (by rw [S.len]; exact Nat.le_refl _), S.len, Nat.sub_self] at e
      cases e
      cases r
  · have hmb : m ≤ s.base := hm
    have hb := S.base
    have h : l < W.n := by omega
    rw [bt h]
    have q := S.old he m hg hm l u hl (old e h)
    refine q.upd (nb h) ((W.addL p).cut m) ⟨fun _ _ z => z, Nat.le_refl _, fun k hk => ?_, rfl, rfl⟩ fun z => z
    exact if_neg (by have hk : k < m := hk; omega)
/-- the object at l anew -/
theorem StR.put {l : Nat} {o₀ o' : Ob} {d : D} {ho' : HO} (S : StR K M W H g s) (e : s.ob[l]? = some o₀) (hz : W.fz (W.bt l) = none) (r : RlO K M W ho' o')
    (hc : d.lf = true → ∀ m, RlO K M (W.cut m) ho' o' ∨ ∀ ho₀, H (W.bt l) = some ho₀ → RlO K M (W.cut m) ho₀ o₀ → RlO K M (W.cut m) ho' o')
    (h₀ : ∃ ho₀, H (W.bt l) = some ho₀ ∧ ∀ m, ObR K M (W.cut m) H (W.bt l) o₀ → RlO K M (W.cut m) ho₀ o₀) :
    StR K M W (upd H (W.bt l) ho') g (s.put l o' d) := by
  have hl := S.lt e
  have nb : ∀ {k}, k < W.n → k ≠ l → W.bt k ≠ W.bt l := fun h n q => n (S.inj _ _ h hl q)
  have nlk : ∀ o, o₀ ≠ .lk o := fun o z => by
    obtain ⟨ho₀, _, h2⟩ := h₀
    have := h2 W.n (S.ob l o₀ e)
    rw [z] at this
    cases this
  have ndd : o₀ ≠ .dead := fun z => by
    obtain ⟨ho₀, _, h2⟩ := h₀
    have := h2 W.n (S.ob l o₀ e)
    rw [z] at this
    cases this
  have set_at : ∀ {k u}, (s.ob.set l o')[k]? = some u → (k = l ∧ u = o') ∨ (k ≠ l ∧ s.ob[k]? = some u) := fun {k u} e' => by
    by_cases q : k = l
    · subst q
      rw [List.getElem?_set_self (ob_lt e)] at e'
      exact .inl ⟨rfl, (Option.some.inj e').symm⟩
    · rw [List.getElem?_set_ne (Ne.symm q)] at e'
      exact .inr ⟨q, e'⟩
  refine ⟨fun a u q => (S.fz a u q).upd (fun z => by rw [z, hz] at q; cases q), ?_, fun k u q => ?_, S.inj, S.base, fun a u q => ?_, fun a u q => ?_, fun k u q => ?_, fun he m hg hm k u hk q => ?_, S.tb.upd (by obtain ⟨ho₀, z1, z2⟩ := h₀; intro o z; rw [z1] at z; cases z; exact (z2 W.n (S.ob l o₀ e)).nt)⟩
  · show (s.ob.set l o').length = W.n
    rw [List.length_set]
    exact S.len
  · rcases set_at q with ⟨rfl, rfl⟩ | ⟨n, q⟩
    · exact .live upd_same r hz
    · exact (S.ob k u q).upd (nb (S.lt q) n) _ .refl fun z => z
  · obtain ⟨q1, q2, q3⟩ := S.fr a u q
    exact ⟨by rw [upd_ne (Ne.symm (q3 l hl))]; exact q1, q2, q3⟩
  · obtain ⟨q1, q2, q3, q4⟩ := S.lc a u q
    have n : a ≠ W.bt l := fun z => by
      rcases q4 l hl z.symm with h4 | ⟨o, h4⟩
      · exact ndd (Option.some.inj (e.symm.trans h4))
      · exact nlk o (Option.some.inj (e.symm.trans h4))
    refine ⟨by rw [upd_ne n]; exact q1, q2, q3, fun k hk eb => ?_⟩
    have e5 : (s.ob.set l o')[k]? = s.ob[k]? := List.getElem?_set_ne (fun z => n (by rw [z, eb]))
    rcases q4 k hk eb with h4 | ⟨o, h4⟩
    · exact .inl (e5.trans h4)
    · exact .inr ⟨o, e5.trans h4⟩
  · rcases set_at q with ⟨rfl, z⟩ | ⟨n, q⟩
    · subst z; cases r
    · exact S.lk k u q
  · have he : (s.esc || (decide (l < s.base) && !d.lf)) = false := he
    have he1 := (Bool.or_eq_false_iff.mp he).1
    rcases set_at q with ⟨rfl, rfl⟩ | ⟨n, q⟩
    · have hm : m ≤ s.base := hm
      have hlf : d.lf = true := by
        have h2 := (Bool.or_eq_false_iff.mp he).2
        rw [decide_eq_true (by omega : k < s.base)] at h2
        simpa using h2
      obtain ⟨ho₀, z1, z2⟩ := h₀
      have q0 := z2 m (S.old he1 m hg hm k o₀ hk e)
      have r' : RlO K M (W.cut m) ho' u := by
        rcases hc hlf m with w | w
        · exact w
        · exact w ho₀ z1 q0
      exact .live upd_same r' hz
    · exact (S.old he1 m hg hm k u hk q).upd (nb (S.lt q) n) _ .refl fun z => z

/-! ### what a step keeps for itself -/
def Wd.keep (W : Wd) (p : Addr) (o : Option HO) : Wd := ⟨W.fz, W.bt, W.n, fun a => if a = p then o else W.fr a, W.lc⟩
mutual
theorem Rl.wd {W W' : Wd} (h1 : W'.fz = W.fz) (h2 : W'.bt = W.bt) (h3 : W'.n = W.n) : ∀ {v : V} {d : D}, Rl K M W v d → Rl K M W' v d
  | _, _, .non => .non
  | _, _, .bl => .bl
  | _, _, .int => .int
  | _, _, .str => .str
  | _, _, .tup h r => .tup (by rw [h1]; exact h) (RlL.wd h1 h2 h3 r)
  | _, _, .ktup h r => .ktup h (RlL.wd h1 h2 h3 r)
  | _, _, .klst h r => .klst (by rw [h1]; exact h) (RlL.wd h1 h2 h3 r)
  | _, _, .frz h r => .frz (by rw [h1]; exact h) (RlO.wd h1 h2 h3 r)
  | _, _, .loc (l := l) h => by
    rw [← h2]
    exact .loc (by rw [h3]; exact h)
theorem RlL.wd {W W' : Wd} (h1 : W'.fz = W.fz) (h2 : W'.bt = W.bt) (h3 : W'.n = W.n) : ∀ {vs : List V} {ds : List D}, RlL K M W vs ds → RlL K M W' vs ds
  | _, _, .nil => .nil
  | _, _, .cons a b => .cons (Rl.wd h1 h2 h3 a) (RlL.wd h1 h2 h3 b)
theorem RlO.wd {W W' : Wd} (h1 : W'.fz = W.fz) (h2 : W'.bt = W.bt) (h3 : W'.n = W.n) : ∀ {v : HO} {d : Ob}, RlO K M W v d → RlO K M W' v d
  | _, _, .lst r => .lst (RlL.wd h1 h2 h3 r)
  | _, _, .dk r => .dk (RlK.wd h1 h2 h3 r)
  | _, _, .dt r => .dt (RlT.wd h1 h2 h3 r)
  | _, _, .ins r => .ins (RlF.wd h1 h2 h3 r)
theorem RlK.wd {W W' : Wd} (h1 : W'.fz = W.fz) (h2 : W'.bt = W.bt) (h3 : W'.n = W.n) : ∀ {vs : List (Key × V)} {ds : List (GKey × D)}, RlK K M W vs ds → RlK K M W' vs ds
  | _, _, .nil => .nil
  | _, _, .cons a b => .cons (Rl.wd h1 h2 h3 a) (RlK.wd h1 h2 h3 b)
theorem RlT.wd {W W' : Wd} (h1 : W'.fz = W.fz) (h2 : W'.bt = W.bt) (h3 : W'.n = W.n) : ∀ {vs : List (List Key × V)} {ds : List (GKey × D)}, RlT K M W vs ds → RlT K M W' vs ds
  | _, _, .nil => .nil
  | _, _, .cons a b => .cons (Rl.wd h1 h2 h3 a) (RlT.wd h1 h2 h3 b)
theorem RlF.wd {W W' : Wd} (h1 : W'.fz = W.fz) (h2 : W'.bt = W.bt) (h3 : W'.n = W.n) : ∀ {vs : List (Str × V)} {ds : List (String × D)}, RlF K M W vs ds → RlF K M W' vs ds
  | _, _, .nil => .nil
  | _, _, .cons a b => .cons (Rl.wd h1 h2 h3 a) (RlF.wd h1 h2 h3 b)
end
theorem ObR.wd {W W' : Wd} (h1 : W'.fz = W.fz) (h2 : W'.bt = W.bt) (h3 : W'.n = W.n) (h : ObR K M W H a o) : ObR K M W' H a o := by
  cases h with
  | live e r z => exact .live e (r.wd h1 h2 h3) (by rw [h1]; exact z)
  | lkL e r z => exact .lkL e (r.wd h1 h2 h3) (by rw [h1]; exact z)
  | lkD e i r z => exact .lkD e i (r.wd h1 h2 h3) (by rw [h1]; exact z)
  | dead e n1 => exact .dead e n1
theorem Wd.keep_at {o : Option HO} : (W.keep p o).fr p = o := if_pos rfl
/-- a fresh address put aside -/
theorem StR.keep (S : StR K M W H g s) (hp : H p = none) (nt : NT ho ∧ ∀ xs, ho ≠ .tup xs := by exact ⟨⟨fun _ z => (nomatch z), fun _ z => (nomatch z)⟩, fun _ z => (nomatch z)⟩) : StR K M (W.keep p (some ho)) (upd H p ho) g s := by
  have hz := S.fz_none hp
  have nb : ∀ {l}, l < W.n → W.bt l ≠ p := fun h => S.bt_ne hp h
  refine ⟨fun a u e => (S.fz a u e).upd fun q => ?_, S.len, fun l o e => ((S.ob l o e).upd (nb (S.lt e)) _ .refl fun z => z).wd (by rfl) (by rfl) (by rfl), S.inj, S.base, fun a u q => ?_, fun a u q => ?_, S.lk, fun he m hg hm l o hl e => ((S.old he m hg hm l o hl e).upd (nb (S.lt e)) _ .refl fun z => z).wd (by rfl) (by rfl) (by rfl), (S.tb.upd (nt_none hp)).wd (fun a o h => .inl h) (fun a o h => (ite_some h).elim (fun h => .inr (by cases h; exact nt)) .inl) (fun a o h => .inl h)⟩
  · have e : W.fz a = some u := e
    rw [q, hz] at e
    cases e
  · have q : (if a = p then some ho else W.fr a) = some u := q
    by_cases n : a = p
    · rw [if_pos n] at q
      cases q
      subst n
      exact ⟨upd_same, hz, fun l h => nb h⟩
    · rw [if_neg n] at q
      obtain ⟨q1, q2, q3⟩ := S.fr a u q
      exact ⟨by rw [upd_ne n]; exact q1, q2, q3⟩
  · obtain ⟨q1, q2, q3, q4⟩ := S.lc a u q
    have n : a ≠ p := fun z => by rw [z, hp] at q1; cases q1
    refine ⟨by rw [upd_ne n]; exact q1, q2, ?_, q4⟩
    show (if a = p then some ho else W.fr a) = none
    rw [if_neg n]
    exact q3
/-- what was put aside changes -/
theorem StR.kept {u : HO} (S : StR K M W H g s) (hp : W.fr p = some ho) (nt : NT u ∧ ∀ xs, u ≠ .tup xs := by exact ⟨⟨fun _ z => (nomatch z), fun _ z => (nomatch z)⟩, fun _ z => (nomatch z)⟩) : StR K M (W.keep p (some u)) (upd H p u) g s := by
  obtain ⟨h1, hz, h3⟩ := S.fr p ho hp
  have nb : ∀ {l}, l < W.n → W.bt l ≠ p := fun h => h3 _ h
  refine ⟨fun a u e => (S.fz a u e).upd fun q => ?_, S.len, fun l o e => ((S.ob l o e).upd (nb (S.lt e)) _ .refl fun z => z).wd (by rfl) (by rfl) (by rfl), S.inj, S.base, fun a u' q => ?_, fun a u' q => ?_, S.lk, fun he m hg hm l o hl e => ((S.old he m hg hm l o hl e).upd (nb (S.lt e)) _ .refl fun z => z).wd (by rfl) (by rfl) (by rfl), (S.tb.upd (fun o e => by rw [h1] at e; cases e; exact (S.tb.fr _ _ hp).1)).wd (fun a o h => .inl h) (fun a o h => (ite_some h).elim (fun h => .inr (by cases h; exact nt)) .inl) (fun a o h => .inl h)⟩
  · have e : W.fz a = some u := e
    rw [q, hz] at e
    cases e
  · have q : (if a = p then some u else W.fr a) = some u' := q
    by_cases n : a = p
    · rw [if_pos n] at q
      cases q
      subst n
      exact ⟨upd_same, hz, fun l h => nb h⟩
    · rw [if_neg n] at q
      obtain ⟨q1, q2, q3⟩ := S.fr a u' q
      exact ⟨by rw [upd_ne n]; exact q1, q2, q3⟩
  · obtain ⟨q1, q2, q3, q4⟩ := S.lc a u' q
    have n : a ≠ p := fun z => by rw [z, hp] at q3; cases q3
    refine ⟨by rw [upd_ne n]; exact q1, q2, ?_, q4⟩
    show (if a = p then some u else W.fr a) = none
    rw [if_neg n]
    exact q3
/-- .. is let go -/
theorem StR.letgo (S : StR K M W H g s) : StR K M (W.keep p none) H g s := by
  refine ⟨S.fz, S.len, fun l o e => (S.ob l o e).wd (by rfl) (by rfl) (by rfl), S.inj, S.base, fun a u q => ?_, fun a u q => ?_, S.lk, fun he m hg hm l o hl e => (S.old he m hg hm l o hl e).wd (by rfl) (by rfl) (by rfl), S.tb.wd (fun a o h => .inl h) (fun a o h => (ite_some h).elim (fun h => (by cases h)) .inl) (fun a o h => .inl h)⟩
  rotate_left
  · obtain ⟨q1, q2, q3, q4⟩ := S.lc a u q
    refine ⟨q1, q2, ?_, q4⟩
    show (if a = p then none else W.fr a) = none
    split
    · rfl
    · exact q3
  have q : (if a = p then none else W.fr a) = some u := q
  by_cases n : a = p
  · rw [if_pos n] at q; cases q
  · rw [if_neg n] at q
    exact S.fr a u q
/-- .. becomes an object that never changes -/
theorem StR.frozen (S : StR K M W H g s) (hp : W.fr p = some ho) : StR K M ((W.keep p none).addF p ho) H g s := by
  obtain ⟨h1, hz, h3⟩ := S.fr p ho hp
  have L : Le W ((W.keep p none).addF p ho) → True := fun _ => trivial
  have hL : ∀ a o, W.fz a = some o → (if a = p then some ho else W.fz a) = some o := fun a o h => by
    rw [if_neg (fun q => by rw [q, hz] at h; cases h)]; exact h
  have up : ∀ {W1 : Wd} {l o}, W1.fz = W.fz → W1.fr = W.fr → W1.bt = W.bt → l < W.n → ObR K M W1 H (W.bt l) o → ObR K M ((W1.keep p none).addF p ho) H (W.bt l) o := fun {W1 l o} e1 e2 e3 hl h => by
    have Lw : Le (W1.keep p none) ((W1.keep p none).addF p ho) := ⟨fun a o h => by
      have h : W1.fz a = some o := h
      rw [e1] at h
      show (if a = p then some ho else W1.fz a) = some o
      rw [e1]; exact hL a o h, Nat.le_refl _, fun _ _ => rfl, rfl, rfl⟩
    have nz : W1.fz (W.bt l) = none → (if W.bt l = p then some ho else W1.fz (W.bt l)) = none := fun z => by rw [if_neg (h3 l hl)]; exact z
    cases h with
    | live e r z => exact .live e ((r.wd (by rfl) (by rfl) (by rfl)).mono Lw) (nz z)
    | lkL e r z => exact .lkL e ((r.wd (by rfl) (by rfl) (by rfl)).mono Lw) (nz z)
    | lkD e i r z => exact .lkD e i ((r.wd (by rfl) (by rfl) (by rfl)).mono Lw) (nz z)
    | dead e n1 => exact .dead e n1
  refine ⟨fun a u e => ?_, S.len, fun l o e => up rfl rfl rfl (S.lt e) (S.ob l o e), S.inj, S.base, fun a u q => ?_, fun a u q => ?_, S.lk, fun he m hg hm l o hl e => up (W1 := W.cut m) rfl rfl rfl (S.lt e) (S.old he m hg hm l o hl e), S.tb.wd (fun a o h => (ite_some h).elim (fun h => .inr (by cases h; exact (S.tb.fr _ _ hp).1)) .inl) (fun a o h => (ite_some h).elim (fun h => (by cases h)) .inl) (fun a o h => .inl h)⟩
  · have e : (if a = p then some ho else W.fz a) = some u := e
    by_cases q : a = p
    · rw [if_pos q] at e
      cases e
      rw [q]
      exact .inl h1
    · rw [if_neg q] at e
      exact S.fz a u e
  · have q : (if a = p then none else W.fr a) = some u := q
    by_cases n : a = p
    · rw [if_pos n] at q; cases q
    · rw [if_neg n] at q
      obtain ⟨q1, q2, q3⟩ := S.fr a u q
      refine ⟨q1, ?_, q3⟩
      show (if a = p then some ho else W.fz a) = none
      rw [if_neg n]; exact q2
  · obtain ⟨q1, q2, q3, q4⟩ := S.lc a u q
    have n : a ≠ p := fun z => by rw [z, hp] at q3; cases q3
    refine ⟨q1, q2, ?_, q4⟩
    show (if a = p then none else W.fr a) = none
    rw [if_neg n]; exact q3
/-- .. becomes a place -/
theorem StR.placed (S : StR K M W H g s) (hp : W.fr p = some ho) (r : RlO K M W ho o) : StR K M ((W.keep p none).addL p) H g { s with ob := s.ob ++ [o] } := by
  obtain ⟨h1, hz, h3⟩ := S.fr p ho hp
  have bt : ∀ {l}, l < W.n → ((W.keep p none).addL p).bt l = W.bt l := fun h => if_neg (Nat.ne_of_lt h)
  have Lw : Le W { (W.keep p none).addL p with fr := W.fr } := ⟨fun _ _ h => h, Nat.le_succ _, fun l h => bt h, rfl, rfl⟩
  have old : ∀ {l u}, (s.ob ++ [o])[l]? = some u → l < W.n → s.ob[l]? = some u := fun {l u} e h => by
    rw [List.getElem?_append_left (by rw [S.len]; exact h)] at e
    exact e
  have at_n : ((W.keep p none).addL p).bt W.n = p := if_pos rfl
  refine ⟨fun a u e => S.fz a u e, ?_, fun l u e => ?_, fun l l' h h' e => ?_, Nat.le_succ_of_le S.base, fun a u q => ?_, fun a u q => ?_, fun l u e => ?_, fun he m hg hm l u hl e => ?_, S.tb.wd (fun a o h => .inl h) (fun a o h => (ite_some h).elim (fun h => (by cases h)) .inl) (fun a o h => .inl h)⟩
  · show (s.ob ++ [o]).length = W.n + 1
    rw [List.length_append, S.len]
    rfl
  · have e : (s.ob ++ [o])[l]? = some u := e
    by_cases h : l < W.n
    · rw [bt h]
      cases S.ob l u (old e h) with
      | live e1 r z => exact .live e1 ((r.mono Lw).wd (by rfl) (by rfl) (by rfl)) z
      | lkL e1 r z => exact .lkL e1 ((r.mono Lw).wd (by rfl) (by rfl) (by rfl)) z
      | lkD e1 i r z => exact .lkD e1 i ((r.mono Lw).wd (by rfl) (by rfl) (by rfl)) z
      | dead e1 n1 => exact .dead e1 n1
    · have hl : l = W.n := by
        have := (List.getElem?_eq_some_iff.mp e).1
        rw [List.length_append, S.len] at this
        simp at this
        omega
      subst hl
      rw [List.getElem?_append_right (by rw [S.len]; exact Nat.le_refl _), S.len, Nat.sub_self] at e
      cases e
      rw [at_n]
      exact .live h1 ((r.mono Lw).wd (by rfl) (by rfl) (by rfl)) hz
  · have h : l < W.n + 1 := h
    have h' : l' < W.n + 1 := h'
    by_cases q : l = W.n
    · by_cases q' : l' = W.n
      · rw [q, q']
      · rw [bt (by omega : l' < W.n), q, at_n] at e
        exact absurd e.symm (h3 _ (by omega))
    · by_cases q' : l' = W.n
      · rw [bt (by omega : l < W.n), q', at_n] at e
        exact absurd e (h3 _ (by omega))
      · rw [bt (by omega : l < W.n), bt (by omega : l' < W.n)] at e
        exact S.inj l l' (by omega) (by omega) e
  · have q : (if a = p then none else W.fr a) = some u := q
    by_cases n : a = p
    · rw [if_pos n] at q; cases q
    · rw [if_neg n] at q
      obtain ⟨q1, q2, q3⟩ := S.fr a u q
      refine ⟨q1, q2, fun l h => ?_⟩
      have h : l < W.n + 1 := h
      by_cases z : l = W.n
      · rw [z, at_n]; exact fun z => n z.symm
      · rw [bt (by omega)]; exact q3 l (by omega)
  · obtain ⟨q1, q2, q3, q4⟩ := S.lc a u q
    have n : a ≠ p := fun z => by rw [z, hp] at q3; cases q3
    refine ⟨q1, q2, ?_, fun l h eb => ?_⟩
    · show (if a = p then none else W.fr a) = none
      rw [if_neg n]; exact q3
    · have h : l < W.n + 1 := h
      by_cases z : l = W.n
      · rw [z, at_n] at eb; exact absurd eb.symm n
      · rw [bt (by omega)] at eb
        rcases q4 l (by omega) eb with h4 | ⟨o', h4⟩
        · exact .inl ((List.getElem?_append_left (ob_lt h4)).trans h4)
        · exact .inr ⟨o', (List.getElem?_append_left (ob_lt h4)).trans h4⟩
  · have e : (s.ob ++ [o])[l]? = some (.lk u) := e
    by_cases z : l < W.n
    · rw [bt z]; exact S.lk l u (old e z)
    · exfalso
      have hl : l = W.n := by
        have := (List.getElem?_eq_some_iff.mp e).1
        rw [List.length_append, S.len] at this
        simp at this
        omega
      subst hl
      rw [List.getElem?_append_right (by rw [S.len]; exact Nat.le_refl _), S.len, Nat.sub_self] at e
      cases e
      cases r
  · have hmb : m ≤ s.base := hm
    have hb := S.base
    have h : l < W.n := by omega
    rw [bt h]
    have Lm : Le (W.cut m) { ((W.keep p none).addL p).cut m with fr := W.fr } := ⟨fun _ _ z => z, Nat.le_refl _, fun k hk => if_neg (Nat.ne_of_lt (Nat.lt_of_lt_of_le (show k < m from hk) (show m ≤ W.n from Nat.le_trans hmb hb))), rfl, rfl⟩
    cases S.old he m hg hm l u hl (old e h) with
    | live e1 r z => exact .live e1 ((r.mono Lm).wd (by rfl) (by rfl) (by rfl)) z
    | lkL e1 r z => exact .lkL e1 ((r.mono Lm).wd (by rfl) (by rfl) (by rfl)) z
    | lkD e1 i r z => exact .lkD e1 i ((r.mono Lm).wd (by rfl) (by rfl) (by rfl)) z
    | dead e1 n1 => exact .dead e1 n1

/-! ### a loop's own -/
def Wd.lock (W : Wd) (p : Addr) (o : Option HO) : Wd := ⟨W.fz, W.bt, W.n, W.fr, fun a => if a = p then o else W.lc a⟩
/-- what stands at a place that a loop walks -/
theorem StR.lkd {l : Nat} {o : Ob} (S : StR K M W H g s) (e : s.ob[l]? = some (.lk o)) : ∃ ho, W.lc (W.bt l) = some ho ∧ H (W.bt l) = some ho := by
  cases h : W.lc (W.bt l) with
  | none => exact absurd h (S.lk l o e)
  | some ho => exact ⟨ho, rfl, (S.lc _ _ h).1⟩
/-- a place is locked; u: what stands there from now on -/
theorem StR.locked {l : Nat} {o : Ob} {u : HO} (S : StR K M W H g s) (e : s.ob[l]? = some o) (hn : ∀ o', o ≠ .lk o') (hz : W.fz (W.bt l) = none) (hd : isDct u = false) (nd : o ≠ .dead) (nt : NT u)
    (hu : ∀ W', ObR K M W' H (W.bt l) o → ObR K M W' (upd H (W.bt l) u) (W.bt l) (.lk o)) :
    StR K M (W.lock (W.bt l) (some u)) (upd H (W.bt l) u) g { s with ob := s.ob.set l (.lk o) } := by
  have hl := S.lt e
  have nb : ∀ {k}, k < W.n → k ≠ l → W.bt k ≠ W.bt l := fun h n q => n (S.inj _ _ h hl q)
  have set_at : ∀ {k v}, (s.ob.set l (.lk o))[k]? = some v → (k = l ∧ v = .lk o) ∨ (k ≠ l ∧ s.ob[k]? = some v) := fun {k v} e' => by
    by_cases q : k = l
    · subst q
      rw [List.getElem?_set_self (ob_lt e)] at e'
      exact .inl ⟨rfl, (Option.some.inj e').symm⟩
    · rw [List.getElem?_set_ne (Ne.symm q)] at e'
      exact .inr ⟨q, e'⟩
  refine ⟨fun a v q => (S.fz a v q).upd (fun z => by have q : W.fz a = some v := q; rw [z, hz] at q; cases q), ?_, fun k v q => ?_, S.inj, S.base, fun a v q => ?_, fun a v q => ?_, fun k v q => ?_, fun he m hg hm k v hk q => ?_, (S.tb.upd ((S.ob l o e).nt nd)).wd (fun a o h => .inl h) (fun a o h => .inl h) (fun a o h => (ite_some h).elim (fun h => .inr (by cases h; exact nt)) .inl)⟩
  · show (s.ob.set l _).length = W.n
    rw [List.length_set]
    exact S.len
  · rcases set_at q with ⟨rfl, rfl⟩ | ⟨n, q⟩
    · exact (hu W (S.ob k o e)).wd (by rfl) (by rfl) (by rfl)
    · exact ((S.ob k v q).upd (nb (S.lt q) n) _ .refl fun z => z).wd (by rfl) (by rfl) (by rfl)
  · obtain ⟨q1, q2, q3⟩ := S.fr a v q
    exact ⟨by rw [upd_ne (Ne.symm (q3 l hl))]; exact q1, q2, q3⟩
  · have q : (if a = W.bt l then some u else W.lc a) = some v := q
    by_cases z : a = W.bt l
    · rw [if_pos z] at q
      cases q
      rw [z]
      refine ⟨upd_same, hd, ?_, fun k hk eb => ?_⟩
      · cases hf : W.fr (W.bt l) with
        | none => exact hf
        | some w => exact absurd rfl ((S.fr _ _ hf).2.2 l hl)
      · have : k = l := S.inj _ _ hk hl eb
        subst this
        exact .inr ⟨o, List.getElem?_set_self (ob_lt e)⟩
    · rw [if_neg z] at q
      obtain ⟨q1, q2, q3, q4⟩ := S.lc a v q
      refine ⟨by rw [upd_ne z]; exact q1, q2, q3, fun k hk eb => ?_⟩
      have e5 : ∀ o', (s.ob.set l o')[k]? = s.ob[k]? := fun o' => List.getElem?_set_ne (fun w => z (by rw [w]; exact eb.symm))
      rcases q4 k hk eb with h4 | ⟨o', h4⟩
      · exact .inl ((e5 _).trans h4)
      · exact .inr ⟨o', (e5 _).trans h4⟩
  · show (if W.bt k = W.bt l then some u else W.lc (W.bt k)) ≠ none
    rcases set_at q with ⟨rfl, _⟩ | ⟨n, q⟩
    · rw [if_pos rfl]; simp
    · rw [if_neg (nb (S.lt q) n)]
      exact S.lk k v q
  · rcases set_at q with ⟨rfl, rfl⟩ | ⟨n, q⟩
    · exact (hu (W.cut m) (S.old he m hg hm k o hk e)).wd (by rfl) (by rfl) (by rfl)
    · exact ((S.old he m hg hm k v hk q).upd (nb (S.lt q) n) _ .refl fun z => z).wd (by rfl) (by rfl) (by rfl)
/-- .. and opened again -/
theorem StR.unlocked {l : Nat} {o : Ob} {u : HO} (S : StR K M W H g s) (e : s.ob[l]? = some (.lk o)) (hz : W.fz (W.bt l) = none)
    (hu : ∀ W', ObR K M W' H (W.bt l) (.lk o) → ObR K M W' (upd H (W.bt l) u) (W.bt l) o) (hn : ∀ o', o ≠ .lk o') :
    StR K M (W.lock (W.bt l) none) (upd H (W.bt l) u) g { s with ob := s.ob.set l o } := by
  have hl := S.lt e
  have nb : ∀ {k}, k < W.n → k ≠ l → W.bt k ≠ W.bt l := fun h n q => n (S.inj _ _ h hl q)
  have set_at : ∀ {k v}, (s.ob.set l o)[k]? = some v → (k = l ∧ v = o) ∨ (k ≠ l ∧ s.ob[k]? = some v) := fun {k v} e' => by
    by_cases q : k = l
    · subst q
      rw [List.getElem?_set_self (ob_lt e)] at e'
      exact .inl ⟨rfl, (Option.some.inj e').symm⟩
    · rw [List.getElem?_set_ne (Ne.symm q)] at e'
      exact .inr ⟨q, e'⟩
  refine ⟨fun a v q => (S.fz a v q).upd (fun z => by have q : W.fz a = some v := q; rw [z, hz] at q; cases q), ?_, fun k v q => ?_, S.inj, S.base, fun a v q => ?_, fun a v q => ?_, fun k v q => ?_, fun he m hg hm k v hk q => ?_, (S.tb.upd ((S.ob l _ e).nt (by intro z; cases z))).wd (fun a o h => .inl h) (fun a o h => .inl h) (fun a o h => (ite_some h).elim (fun h => (by cases h)) .inl)⟩
  · show (s.ob.set l _).length = W.n
    rw [List.length_set]
    exact S.len
  · rcases set_at q with ⟨rfl, rfl⟩ | ⟨n, q⟩
    · exact (hu W (S.ob k (.lk v) e)).wd (by rfl) (by rfl) (by rfl)
    · exact ((S.ob k v q).upd (nb (S.lt q) n) _ .refl fun z => z).wd (by rfl) (by rfl) (by rfl)
  · obtain ⟨q1, q2, q3⟩ := S.fr a v q
    exact ⟨by rw [upd_ne (Ne.symm (q3 l hl))]; exact q1, q2, q3⟩
  · have q : (if a = W.bt l then none else W.lc a) = some v := q
    by_cases z : a = W.bt l
    · rw [if_pos z] at q; cases q
    · rw [if_neg z] at q
      obtain ⟨q1, q2, q3, q4⟩ := S.lc a v q
      refine ⟨by rw [upd_ne z]; exact q1, q2, q3, fun k hk eb => ?_⟩
      have e5 : ∀ o', (s.ob.set l o')[k]? = s.ob[k]? := fun o' => List.getElem?_set_ne (fun w => z (by rw [w]; exact eb.symm))
      rcases q4 k hk eb with h4 | ⟨o', h4⟩
      · exact .inl ((e5 _).trans h4)
      · exact .inr ⟨o', (e5 _).trans h4⟩
  · show (if W.bt k = W.bt l then none else W.lc (W.bt k)) ≠ none
    rcases set_at q with ⟨_, z⟩ | ⟨n, q⟩
    · exact absurd z.symm (hn v)
    · rw [if_neg (nb (S.lt q) n)]
      exact S.lk k v q
  · rcases set_at q with ⟨rfl, rfl⟩ | ⟨n, q⟩
    · exact (hu (W.cut m) (S.old he m hg hm k (.lk v) hk e)).wd (by rfl) (by rfl) (by rfl)
    · exact ((S.old he m hg hm k v hk q).upd (nb (S.lt q) n) _ .refl fun z => z).wd (by rfl) (by rfl) (by rfl)
/-- a dict that never changes is frozen for a loop, or free again -/
theorem StR.refz {u : HO} (S : StR K M W H g s) (hz : W.fz p = some ho) (hd : isDct ho = true) (hu : u = ho ∨ ∃ od, u = .frz od ho) (o : Option HO) (ho : ∀ w, o = some w → w = u ∧ isDct w = false) (hl : o ≠ none → ∀ l, l < W.n → W.bt l = p → s.ob[l]? = some .dead) (hl2 : o = none → ∀ l v, s.ob[l]? = some (.lk v) → W.bt l ≠ p) :
    StR K M (W.lock p o) (upd H p u) g s := by
  have nb : ∀ {W1 : Wd} {l o}, W1.fz = W.fz → ObR K M W1 H (W.bt l) o → ObR K M W1 (upd H p u) (W.bt l) o := fun {W1 l o} e1 q => by
    by_cases z : W.bt l = p
    · cases q with
      | live e r y => rw [z, e1, hz] at y; cases y
      | lkL e r y => rw [z, e1, hz] at y; cases y
      | lkD e i r y => rw [z, e1, hz] at y; cases y
      | dead e n1 => exact .dead (u := u) (by rw [z, upd_same]) (by rcases hu with rfl | ⟨od, rfl⟩ <;> first | exact S.tb.fz _ _ hz | exact .frz)
    · exact q.upd z _ .refl fun z => z
  have frp : W.fr p = none := by
    cases q : W.fr p with
    | none => rfl
    | some w => have := (S.fr _ _ q).2.1; rw [hz] at this; cases this
  refine ⟨fun a v q => ?_, S.len, fun l v q => (nb rfl (S.ob l v q)).wd (by rfl) (by rfl) (by rfl), S.inj, S.base, fun a v q => ?_, fun a v q => ?_, fun l v q => ?_, fun he m hg hm l v hl' q => (nb (W1 := W.cut m) rfl (S.old he m hg hm l v hl' q)).wd (by rfl) (by rfl) (by rfl), (S.tb.upd (fun o e => by rcases S.fz _ _ hz with z | ⟨_, od, z⟩ <;> rw [z] at e <;> cases e <;> first | exact S.tb.fz _ _ hz | exact .frz)).wd (fun a o h => .inl h) (fun a o h => .inl h) (fun a o h => (ite_some h).elim (fun h => .inr (by obtain ⟨e1, _⟩ := ho _ h; rw [e1]; rcases hu with rfl | ⟨od, rfl⟩ <;> first | exact S.tb.fz _ _ hz | exact .frz)) .inl)⟩
  · have q : W.fz a = some v := q
    by_cases z : a = p
    · rw [z] at q ⊢
      rw [hz] at q
      cases q
      rcases hu with rfl | ⟨od, rfl⟩
      · exact .inl upd_same
      · exact .inr ⟨hd, od, upd_same⟩
    · exact (S.fz a v q).upd z
  · have q : W.fr a = some v := q
    obtain ⟨q1, q2, q3⟩ := S.fr a v q
    have n : a ≠ p := fun z => by rw [z, frp] at q; cases q
    exact ⟨by rw [upd_ne n]; exact q1, q2, q3⟩
  · have q : (if a = p then o else W.lc a) = some v := q
    by_cases z : a = p
    · rw [if_pos z] at q
      rw [z]
      obtain ⟨h1, h2⟩ := ho v q
      exact ⟨by rw [upd_same, h1], h2, frp, fun l hl' eb => .inl (hl (by rw [q]; simp) l hl' eb)⟩
    · rw [if_neg z] at q
      obtain ⟨q1, q2, q3, q4⟩ := S.lc a v q
      exact ⟨by rw [upd_ne z]; exact q1, q2, q3, q4⟩
  · show (if W.bt l = p then o else W.lc (W.bt l)) ≠ none
    by_cases z : W.bt l = p
    · rw [if_pos z]
      intro y
      exact hl2 y l v q z
    · rw [if_neg z]
      exact S.lk l v q
/-- a lock of nothing is forgotten -/
theorem StR.dropLc (S : StR K M W H g s) (h : ∀ l v, s.ob[l]? = some (.lk v) → W.bt l ≠ p) : StR K M (W.lock p none) H g s := by
  refine ⟨S.fz, S.len, fun l o q => (S.ob l o q).wd (by rfl) (by rfl) (by rfl), S.inj, S.base, S.fr, fun a v q => ?_, fun l v q => ?_, fun he m hg hm l o hl q => (S.old he m hg hm l o hl q).wd (by rfl) (by rfl) (by rfl), S.tb.wd (fun a o h => .inl h) (fun a o h => .inl h) (fun a o h => (ite_some h).elim (fun h => (by cases h)) .inl)⟩
  · have q : (if a = p then none else W.lc a) = some v := q
    by_cases z : a = p
    · rw [if_pos z] at q; cases q
    · rw [if_neg z] at q; exact S.lc a v q
  · show (if W.bt l = p then none else W.lc (W.bt l)) ≠ none
    rw [if_neg (h l v q)]
    exact S.lk l v q
end
end Fn

set_option Elab.async false
set_option linter.all false
set_option maxRecDepth 100000
namespace Fn
open PySem L2

/-- a raised exception as it lies -/
structure XR (K : PySem.W.Frag) (M : Nm) (W : Wd) (H : Hp) (x : Xn) (cls : Value) (dd : Option Addr) : Prop where
  cls : cls = .ref (M.cls x.cls)
  kn : x.cls ∈ M.ex
  fs : ∀ f d, fget x.fs f = some d → ∃ dx fs v, dd = some dx ∧ H dx = some (.xd fs) ∧ fs.lookup (sOf f) = some v ∧ Rl K M W v d

abbrev WS := Value → Option Addr → Hp → Prop
section
variable (K : PySem.W.Frag) (M : Nm) (g : Nat → Prop)
/-- what is wanted of an answer -/
def Post {α β : Type} (rel : Wd → β → α → Prop) (E : WS) (W : Wd) (Q : β → Hp → Prop) : R α → Prop
  | .ok a s => ∀ W' H' b, Le W W' → StR K M W' H' g s → rel W' b a → Q b H'
  | .ex x s => ∀ W' H' cls dd, Le W W' → StR K M W' H' g s → XR K M W' H' x cls dd → E cls dd H'
  | .no => False
def EnvR (W : Wd) (σ : St) (env : Env) : Prop := List.length σ = List.length env ∧ ∀ (i : Nat) (d : D), env[i]? = some (some d) → ∃ v : V, σ[i]? = some (some v) ∧ Rl K M W v d
/-- the reading of a term: f by the world -/
def TF (f : Env → Sto → R D) (E : WX) : TE := fun σ H Q => ∃ W env s, EnvR K M W σ env ∧ StR K M W H g s ∧ Post K M g (Rl K M) (fun c d H' => E c d σ H') W Q (f env s)
def TA' (f : Env → Sto → R (List D)) (E : WX) : TA := fun σ H Q => ∃ W env s, EnvR K M W σ env ∧ StR K M W H g s ∧ Post K M g (RlL K M) (fun c d H' => E c d σ H') W Q (f env s)
/-- .. of a test -/
def TT' (f : Env → Sto → R Bool) (E : WX) : TT := fun σ H Q => ∃ W env s, EnvR K M W σ env ∧ StR K M W H g s ∧ Post K M g (fun _ (b : Bool) a => b = a) (fun c d H' => E c d σ H') W Q (f env s)
end
section
variable {K : PySem.W.Frag} {M : Nm} {g : Nat → Prop} {α β γ δ : Type} {rel : Wd → β → α → Prop} {rel2 : Wd → δ → γ → Prop} {E : WS} {W W' : Wd} {Q Q' : β → Hp → Prop} {r : R α} {H H' : Hp} {s : Sto} {σ : St} {env : Env}
theorem Post.imp (P : Post K M g rel E W Q r) (h : ∀ b H, Q b H → Q' b H) : Post K M g rel E W Q' r := by
  cases r with
  | ok a s => exact fun W' H' b L S R => h _ _ (P W' H' b L S R)
  | ex x s => exact P
  | no => exact P
theorem Post.mono (P : Post K M g rel E W Q r) (L : Le W W') : Post K M g rel E W' Q r := by
  cases r with
  | ok a s => exact fun W2 H2 b L2 S R => P W2 H2 b (L.trans L2) S R
  | ex x s => exact fun W2 H2 c d L2 S R => P W2 H2 c d (L.trans L2) S R
  | no => exact P
theorem Post.bind {f : α → Sto → R γ} {Q : δ → Hp → Prop} (P : Post K M g rel2 E W Q (r.bind f)) :
    Post K M g rel E W (fun b H1 => ∃ a s1 W1, Le W W1 ∧ StR K M W1 H1 g s1 ∧ rel W1 b a ∧ Post K M g rel2 E W1 Q (f a s1)) r := by
  cases r with
  | ok a s => exact fun W' H' b L S R => ⟨a, s, W', L, S, R, Post.mono (show Post K M g rel2 E W Q (f a s) from P) L⟩
  | ex x s => exact P
  | no => exact P
theorem EnvR.mono (e : EnvR K M W σ env) (L : Le W W') : EnvR K M W' σ env := ⟨e.1, fun i d h => by
  obtain ⟨v, h1, h2⟩ := e.2 i d h
  exact ⟨v, h1, h2.mono L⟩⟩
theorem EnvR.set (e : EnvR K M W σ env) {i : Nat} {v : V} {d : D} (r : Rl K M W v d) : EnvR K M W (σ.set i (some v)) (env.set i (some d)) := by
  refine ⟨by rw [List.length_set, List.length_set, e.1], fun j d' h => ?_⟩
  by_cases q : i = j
  · subst q
    by_cases hl : i < env.length
    · rw [List.getElem?_set_self hl] at h
      cases h
      exact ⟨v, List.getElem?_set_self (by rw [e.1]; exact hl), r⟩
    · rw [List.getElem?_eq_none (by rw [List.length_set]; omega)] at h
      cases h
  · rw [List.getElem?_set_ne q] at h ⊢
    exact e.2 j d' h
theorem EnvR.wipe (e : EnvR K M W σ env) : ∀ vs : List Nat, EnvR K M W (L2.wipe σ vs) (Fn.wipe env vs)
  | [] => e
  | v :: vs => by
    have ih := EnvR.wipe e vs
    refine ⟨by show ((L2.wipe σ vs).set v none).length = ((Fn.wipe env vs).set v none).length; rw [List.length_set, List.length_set]; exact ih.1, fun j d' h => ?_⟩
    have h : ((Fn.wipe env vs).set v none)[j]? = some (some d') := h
    show ∃ w, ((L2.wipe σ vs).set v none)[j]? = some (some w) ∧ _
    by_cases q : v = j
    · subst q
      by_cases hl : v < (Fn.wipe env vs).length
      · rw [List.getElem?_set_self hl] at h
        cases h
      · rw [List.getElem?_eq_none (by rw [List.length_set]; omega)] at h
        cases h
    · rw [List.getElem?_set_ne q] at h ⊢
      exact ih.2 j d' h
theorem EnvR.none (e : EnvR K M W σ env) (i : Nat) (x : Option V) : EnvR K M W (σ.set i x) (env.set i none) := by
  refine ⟨by rw [List.length_set, List.length_set, e.1], fun j d' h => ?_⟩
  by_cases q : i = j
  · subst q
    by_cases hl : i < env.length
    · rw [List.getElem?_set_self hl] at h
      cases h
    · rw [List.getElem?_eq_none (by rw [List.length_set]; omega)] at h
      cases h
  · rw [List.getElem?_set_ne q] at h ⊢
    exact e.2 j d' h

/-! ### new objects -/
theorem Post.frz {ho : HO} {o : Ob} {p : Addr} {Q : VK} (P : Post K M g (Rl K M) E W Q (.ok (.frz o) s)) (S : StR K M W H g s) (r : RlO K M W ho o) (hp : H p = none) : Q (.ref p) (upd H p ho) := by
  refine P _ _ _ (Wd.addF_le (S.fz_none hp)) (S.addF hp r.nt) (.frz Wd.addF_at (r.mono (Wd.addF_le (S.fz_none hp))))
theorem Post.tup {vs : List V} {ds : List D} {p : Addr} {Q : VK} (P : Post K M g (Rl K M) E W Q (.ok (.tup ds) s)) (S : StR K M W H g s) (r : RlL K M W vs ds) (hp : H p = none) : Q (.ref p) (upd H p (.tup vs)) := by
  refine P _ _ _ (Wd.addF_le (S.fz_none hp)) (S.addF hp) (.tup Wd.addF_at (r.mono (Wd.addF_le (S.fz_none hp))))
theorem Post.mk {ho : HO} {o : Ob} {p : Addr} {Q : VK} {m : Bool} (P : Post K M g (Rl K M) E W Q (mkOb m o s)) (S : StR K M W H g s) (r : RlO K M W ho o) (hp : H p = none) : Q (.ref p) (upd H p ho) := by
  unfold mkOb at P
  cases m with
  | true =>
    rw [if_pos rfl] at P
    have q := P _ _ (.ref p) Wd.addL_le (S.addL hp r) (by
      have z : Rl K M (W.addL p) (.ref ((W.addL p).bt W.n)) (.loc W.n) := .loc (Nat.lt_succ_self _)
      rw [Wd.addL_at] at z
      rw [S.len]
      exact z)
    exact q
  | false =>
    rw [if_neg (by decide)] at P
    exact P.frz S r hp
theorem Post.ok {α : Type} {rel : Wd → β → α → Prop} {a : α} {b : β} {Q : β → Hp → Prop} (P : Post K M g rel E W Q (.ok a s)) (S : StR K M W H g s) (r : rel W b a) : Q b H := P W H b .refl S r
theorem Post.at {α : Type} {rel : Wd → β → α → Prop} {o : Option α} {Q : β → Hp → Prop} (P : Post K M g rel E W Q (at? o s)) : ∃ a, o = some a ∧ Post K M g rel E W Q (.ok a s) := by
  cases o with
  | none => exact P.elim
  | some a => exact ⟨a, rfl, P⟩

/-! ### relations: lengths, places -/
theorem RlL.length : ∀ {vs : List V} {ds : List D}, RlL K M W vs ds → vs.length = ds.length
  | _, _, .nil => rfl
  | _, _, .cons _ b => congrArg Nat.succ b.length
theorem RlL.get : ∀ {vs : List V} {ds : List D} {i : Nat} {d : D}, RlL K M W vs ds → ds[i]? = some d → ∃ v, vs[i]? = some v ∧ Rl K M W v d
  | _, _, _, _, .nil, e => by simp at e
  | _, _, 0, _, .cons a _, e => by simp at e; subst e; exact ⟨_, rfl, a⟩
  | _, _, i + 1, _, .cons _ b, e => by
    obtain ⟨v, h1, h2⟩ := RlL.get (i := i) b (by simpa using e)
    exact ⟨v, by simpa using h1, h2⟩
theorem RlL.getV : ∀ {vs : List V} {ds : List D} {i : Nat} {v : V}, RlL K M W vs ds → vs[i]? = some v → ∃ d, ds[i]? = some d ∧ Rl K M W v d
  | _, _, _, _, .nil, e => by simp at e
  | _, _, 0, _, .cons a _, e => by simp at e; subst e; exact ⟨_, rfl, a⟩
  | _, _, i + 1, _, .cons _ b, e => by
    obtain ⟨v, h1, h2⟩ := RlL.getV (i := i) b (by simpa using e)
    exact ⟨v, by simpa using h1, h2⟩
theorem RlL.append : ∀ {vs us : List V} {ds es : List D}, RlL K M W vs ds → RlL K M W us es → RlL K M W (vs ++ us) (ds ++ es)
  | _, _, _, _, .nil, q => q
  | _, _, _, _, .cons a b, q => .cons a (b.append q)
theorem RlL.take : ∀ {vs : List V} {ds : List D} (n : Nat), RlL K M W vs ds → RlL K M W (vs.take n) (ds.take n)
  | _, _, 0, _ => .nil
  | _, _, _ + 1, .nil => .nil
  | _, _, n + 1, .cons a b => .cons a (b.take n)
theorem RlL.drop : ∀ {vs : List V} {ds : List D} (n : Nat), RlL K M W vs ds → RlL K M W (vs.drop n) (ds.drop n)
  | _, _, 0, r => r
  | _, _, _ + 1, .nil => .nil
  | _, _, n + 1, .cons _ b => b.drop n
theorem RlL.set {v : V} {d : D} (r : Rl K M W v d) : ∀ {vs : List V} {ds : List D} (n : Nat), RlL K M W vs ds → RlL K M W (vs.set n v) (ds.set n d)
  | _, _, _, .nil => .nil
  | _, _, 0, .cons _ b => .cons r b
  | _, _, n + 1, .cons a b => .cons a (RlL.set r n b)
theorem RlL.isEmpty {vs : List V} {ds : List D} (r : RlL K M W vs ds) : vs.isEmpty = ds.isEmpty := by cases r <;> rfl
theorem RlL.nil_iff {vs : List V} {ds : List D} (r : RlL K M W vs ds) : vs = [] ↔ ds = [] := by cases r <;> simp
theorem RlK.length : ∀ {vs : List (Key × V)} {ds : List (GKey × D)}, RlK K M W vs ds → vs.length = ds.length
  | _, _, .nil => rfl
  | _, _, .cons _ b => congrArg Nat.succ b.length
theorem RlT.length : ∀ {vs : List (List Key × V)} {ds : List (GKey × D)}, RlT K M W vs ds → vs.length = ds.length
  | _, _, .nil => rfl
  | _, _, .cons _ b => congrArg Nat.succ b.length

/-! ### what stands behind a value -/
/-- the object behind a value: at an address, readable -/
theorem view_ok {v : V} {d : D} {o : Ob} (r : Rl K M W v d) (S : StR K M W H g s) (e : view d s = some o) (hd : ∀ o', o ≠ .lk o') (hx : o ≠ .dead) : ∃ a ho, v = .ref a ∧ RdX H a ho ∧ RlO K M W ho o := by
  cases r with
  | frz h q =>
    cases e
    exact ⟨_, _, rfl, S.fz _ _ h, q⟩
  | @loc l h =>
    have e : (s.ob[l]?).map Ob.unlk = some o := e
    cases hq : s.ob[l]? with
    | none => rw [hq] at e; cases e
    | some u =>
      rw [hq] at e
      have e : u.unlk = o := Option.some.inj e
      cases S.ob l u hq with
      | live e1 r1 z =>
        have : u = o := by
          cases r1 <;> exact e
        subst this
        exact ⟨_, _, rfl, .inl e1, r1⟩
      | lkL e1 r1 z =>
        have e : Ob.lst _ = o := e
        subst e
        exact ⟨_, _, rfl, .inl e1, .lst r1⟩
      | lkD e1 i r1 z =>
        have e : _ = o := e
        subst e
        exact ⟨_, _, rfl, .inr ⟨i, _, e1⟩, r1⟩
      | dead e1 _ => exact absurd e.symm hx
  | _ => cases e
theorem rdx_lst {a : Addr} {vs : List V} (h : RdX H a (HO.lst vs)) : H a = some (HO.lst vs) := by
  rcases h with h | ⟨i, _⟩
  · exact h
  · cases i
theorem rdx_ins {a C dx : Addr} {fs : List (PySem.Str × V)} (h : RdX H a (HO.ins C dx fs)) : H a = some (HO.ins C dx fs) := by
  rcases h with h | ⟨i, _⟩
  · exact h
  · cases i
theorem rdx_tup {a : Addr} {vs : List V} (h : RdX H a (HO.tup vs)) : H a = some (HO.tup vs) := by
  rcases h with h | ⟨i, _⟩
  · exact h
  · cases i
theorem view_lst {v : V} {d : D} {ds : List D} (r : Rl K M W v d) (S : StR K M W H g s) (e : view d s = some (.lst ds)) : ∃ a vs, v = .ref a ∧ H a = some (.lst vs) ∧ RlL K M W vs ds := by
  obtain ⟨a, ho, rfl, h, q⟩ := view_ok r S e (by intro o' z; cases z) (by intro z; cases z)
  cases q with
  | lst q => exact ⟨a, _, rfl, rdx_lst h, q⟩
theorem lst_ok {v : V} {d : D} {ds : List D} (r : Rl K M W v d) (S : StR K M W H g s) (e : lstOf d s = some ds) : ∃ a vs, v = .ref a ∧ SqL K H a vs ∧ RlL K M W vs ds := by
  cases r with
  | klst h q =>
    cases e
    rcases h with (h | ⟨o, h⟩) | h
    · exact ⟨_, _, rfl, SqL.of (rdx_lst (S.fz _ _ h)), q⟩
    · have h2 := S.fz _ _ h
      rcases h2 with h2 | ⟨i, _⟩
      · exact ⟨_, _, rfl, .inl (.inr ⟨o, h2⟩), q⟩
      · cases i
    · exact ⟨_, _, rfl, h H, q⟩
  | frz h q =>
    rename_i a0 ho0 o0
    have e2 : view (D.frz o0) s = some (.lst ds) := by
      revert e
      unfold lstOf
      dsimp only
      split
      · intro e; cases e; assumption
      · intro e; cases e
    obtain ⟨a, vs, e1, h1, h2⟩ := view_lst (.frz h q) S e2
    exact ⟨a, vs, e1, SqL.of h1, h2⟩
  | loc h =>
    rename_i l0
    have e2 : view (D.loc l0) s = some (.lst ds) := by
      revert e
      unfold lstOf
      dsimp only
      split
      · intro e; cases e; assumption
      · intro e; cases e
    obtain ⟨a, vs, e1, h1, h2⟩ := view_lst (.loc h) S e2
    cases e1
    exact ⟨_, vs, rfl, SqL.of h1, h2⟩
  | _ => simp [lstOf, view] at e
theorem seq_ok {v : V} {d : D} {ds : List D} (r : Rl K M W v d) (S : StR K M W H g s) (e : seqOf d s = some ds) : ∃ a vs, v = .ref a ∧ (SqL K H a vs ∨ SqT K H a vs) ∧ RlL K M W vs ds := by
  cases r with
  | tup h q =>
    cases e
    exact ⟨_, _, rfl, .inr (SqT.of (rdx_tup (S.fz _ _ h))), q⟩
  | ktup h q =>
    cases e
    exact ⟨_, _, rfl, .inr (h H), q⟩
  | klst h q =>
    cases e
    obtain ⟨a, vs, e1, h1, h2⟩ := lst_ok (.klst h q) S (ds := _) rfl
    exact ⟨a, vs, e1, .inl h1, h2⟩
  | frz h q =>
    obtain ⟨a, vs, e1, h1, h2⟩ := lst_ok (ds := ds) (.frz h q) S (by simpa [seqOf, lstOf] using e)
    exact ⟨a, vs, e1, .inl h1, h2⟩
  | loc h =>
    obtain ⟨a, vs, e1, h1, h2⟩ := lst_ok (ds := ds) (.loc h) S (by simpa [seqOf, lstOf] using e)
    exact ⟨a, vs, e1, .inl h1, h2⟩
  | _ => simp [seqOf, view] at e
/-- the dict behind a value -/
theorem dct_ok {v : V} {d : D} {t : Bool} {es : List (GKey × D)} (r : Rl K M W v d) (S : StR K M W H g s) (e : dctOf d s = some (t, es)) :
    ∃ a, v = .ref a ∧ ((t = false ∧ ∃ kvs, RdX H a (.dK kvs) ∧ RlK K M W kvs es) ∨ (t = true ∧ ∃ kvs, RdX H a (.dT kvs) ∧ RlT K M W kvs es)) := by
  have e2 : view d s = some (.dct t es) := by
    revert e
    unfold dctOf
    split
    · intro e; cases e; assumption
    · intro e; cases e
  obtain ⟨a, ho, rfl, h, q⟩ := view_ok r S e2 (by intro o' z; cases z) (by intro z; cases z)
  cases q with
  | dk q => exact ⟨a, rfl, .inl ⟨rfl, _, h, q⟩⟩
  | dt q => exact ⟨a, rfl, .inr ⟨rfl, _, h, q⟩⟩
theorem ins_ok {v : V} {d : D} {c : String} {es : List (String × D)} (r : Rl K M W v d) (S : StR K M W H g s) (e : insOf d s = some (c, es)) :
    ∃ a dx fs, v = .ref a ∧ H a = some (.ins (M.cls c) dx fs) ∧ RlF K M W fs es := by
  have e2 : view d s = some (.ins c es) := by
    revert e
    unfold insOf
    split
    · intro e; cases e; assumption
    · intro e; cases e
  obtain ⟨a, ho, rfl, h, q⟩ := view_ok r S e2 (by intro o' z; cases z) (by intro z; cases z)
  cases q with
  | ins q => exact ⟨a, _, _, rfl, rdx_ins h, q⟩
end
end Fn

set_option Elab.async false
set_option linter.all false
set_option maxRecDepth 100000
set_option maxHeartbeats 2000000
namespace Fn
open PySem L2
section
variable {X : Cx} {e : Expr} {t t1 t2 : TE}
theorem PE.imp (h : PE X e t) (i : ∀ σ H Q, t1 σ H Q → t σ H Q) : PE X e t1 := ⟨fun pins s σ H Q I q => h.run pins s σ H Q I (i _ _ _ q)⟩
theorem PE.or (h1 : PE X e t1) (h2 : PE X e t2) : PE X e (fun σ H Q => t1 σ H Q ∨ t2 σ H Q) := ⟨fun pins s σ H Q I q => q.elim (h1.run pins s σ H Q I) (h2.run pins s σ H Q I)⟩
theorem PT.imp {t t1 : TT} (h : PT X e t) (i : ∀ σ H Q, t1 σ H Q → t σ H Q) : PT X e t1 := ⟨fun pins s σ H Q I q => h.run pins s σ H Q I (i _ _ _ q)⟩
theorem PT.or {t1 t2 : TT} (h1 : PT X e t1) (h2 : PT X e t2) : PT X e (fun σ H Q => t1 σ H Q ∨ t2 σ H Q) := ⟨fun pins s σ H Q I q => q.elim (h1.run pins s σ H Q I) (h2.run pins s σ H Q I)⟩
theorem opImp {f : Value → Value → Sem Value} {r r' : R2} (h : OpR X f r) (i : ∀ x y H Q, r' x y H Q → r x y H Q) : OpR X f r' := fun pins s σ H x y v u Q I rx ry q => h pins s σ H x y v u Q I rx ry (i _ _ _ _ q)
theorem callImp {f : Value} {r r' : List V → Hp → VK → Prop} (h : CallR X f r) (i : ∀ vs H Q, r' vs H Q → r vs H Q) : CallR X f r' := fun pins s σ H vs us Q I r q => h pins s σ H vs us Q I r (i _ _ _ q)
theorem callOr {f : Value} {r r' : List V → Hp → VK → Prop} (h : CallR X f r) (h' : CallR X f r') : CallR X f (fun vs H Q => r vs H Q ∨ r' vs H Q) := fun pins s σ H vs us Q I rv q => q.elim (h pins s σ H vs us Q I rv) (h' pins s σ H vs us Q I rv)
end
theorem lenLine_eq : lenLine = sizeLine := by rw [sizeLine_eq]; rfl
theorem cOf_len (cs : List Nat) : (cOf cs).length = cs.length := by
  show cs.toArray.size = cs.length
  simp
theorem cOf_inj {a b : List Nat} (h : cOf a = cOf b) : a = b := by
  have := congrArg (fun z : PySem.Str => z.cps.toList) h
  simpa [cOf] using this
theorem cOf_app (a b : List Nat) : cOf a ++ cOf b = cOf (a ++ b) := by
  show (⟨a.toArray ++ b.toArray⟩ : PySem.Str) = ⟨(a ++ b).toArray⟩
  simp

section
variable (K : PySem.W.Frag) (M : Nm) (g : Nat → Prop)
/-- two values to an answer -/
def r2 (f : D → D → Sto → R D) : R2 := fun x y H Q => ∃ W s d1 d2 E, StR K M W H g s ∧ Rl K M W x d1 ∧ Rl K M W y d2 ∧ Post K M g (Rl K M) E W Q (f d1 d2 s)
/-- values to an answer -/
def rN (f : List D → Sto → R D) : List V → Hp → VK → Prop := fun vs H Q => ∃ W s ds E, StR K M W H g s ∧ RlL K M W vs ds ∧ Post K M g (Rl K M) E W Q (f ds s)
end
section
variable {X : Cx} {M : Nm} {g : Nat → Prop}
/-- a pure answer -/
theorem Post.int {K : PySem.W.Frag} {E : WS} {W : Wd} {H : Hp} {s : Sto} {i : Int} {Q : VK} (P : Post K M g (Rl K M) E W Q (.ok (.int i) s)) (S : StR K M W H g s) : Q (.int i) H := P.ok S .int
theorem Post.bl {K : PySem.W.Frag} {E : WS} {W : Wd} {H : Hp} {s : Sto} {i : Bool} {Q : VK} (P : Post K M g (Rl K M) E W Q (.ok (.bl i) s)) (S : StR K M W H g s) : Q (.bl i) H := P.ok S .bl
theorem Post.str {K : PySem.W.Frag} {E : WS} {W : Wd} {H : Hp} {s : Sto} {i : List Nat} {Q : VK} (P : Post K M g (Rl K M) E W Q (.ok (.str i) s)) (S : StR K M W H g s) : Q (.str (cOf i)) H := P.ok S .str

theorem o_add : OpR X (binaryOp .Add) (r2 X.K M g (bin .add)) := by
  refine opImp (((op_add.or op_add_str).or op_catA).or op_cat) fun x y H Q ⟨W, s, d1, d2, E, S, r1, r2, P⟩ => ?_
  unfold bin at P
  dsimp only at P
  split at P
  · cases r1; cases r2
    exact .inl (.inl (.inl ⟨_, _, rfl, rfl, P.int S⟩))
  · cases r1; cases r2
    split at P
    · rename_i h
      refine .inl (.inl (.inr ⟨_, _, rfl, rfl, ?_, ?_⟩))
      · rw [cOf_len, cOf_len, ← lenLine_eq]; exact h
      · rw [cOf_app]; exact P.str S
    · exact P.elim
  · cases r1 with
    | tup h1 q1 => cases r2 with
      | tup h2 q2 =>
        split at P
        · rename_i h
          have e1 := S.fz _ _ h1
          have e2 := S.fz _ _ h2
          refine .inl (.inr ⟨_, _, _, _, rfl, rfl, SqT.of (rdx_tup e1), SqT.of (rdx_tup e2), ?_, fun z => ?_, fun _ z => ?_, fun _ _ p hp => ?_⟩)
          · rw [q1.length, q2.length, ← lenLine_eq]; exact h
          · have z2 := q1.nil_iff.mp z
            subst z2
            exact P.ok S (.tup h2 (by simpa using q2))
          · have z2 := q2.nil_iff.mp z
            subst z2
            exact P.ok S (.tup h1 (by simpa using q1))
          · exact P.tup S (q1.append q2) hp
        · exact P.elim
  · split at P
    · rename_i a b ea eb
      obtain ⟨p1, vs, rfl, h1, q1⟩ := view_lst r1 S ea
      obtain ⟨p2, us, rfl, h2, q2⟩ := view_lst r2 S eb
      unfold mkLst at P
      split at P
      · rename_i h
        refine .inr ⟨_, _, _, _, rfl, rfl, h1, h2, ?_, fun p hp => P.mk S (.lst (q1.append q2)) hp⟩
        rw [q1.length, q2.length, ← List.length_append, ← lenLine_eq]; exact h
      · exact P.elim
    · exact P.elim
theorem o_sub : OpR X (binaryOp .Sub) (r2 X.K M g (bin .sub)) := by
  refine opImp op_sub fun x y H Q ⟨W, s, d1, d2, E, S, r1, r2, P⟩ => ?_
  unfold bin at P
  dsimp only at P
  split at P
  · cases r1; cases r2
    exact ⟨_, _, rfl, rfl, P.int S⟩
  · exact P.elim
theorem o_mul : OpR X (binaryOp .Mult) (r2 X.K M g (bin .mul)) := by
  refine opImp op_mulW fun x y H Q ⟨W, s, d1, d2, E, S, r1, r2, P⟩ => ?_
  unfold bin at P
  dsimp only at P
  split at P
  · cases r1; cases r2
    split at P
    · rename_i h
      exact ⟨_, _, rfl, rfl, h, P.int S⟩
    · exact P.elim
  · exact P.elim
def CDv (_ j : Int) : Prop := j ≠ 0 ∧ j.natAbs < divLine
theorem op_fdivA : OpR X (binaryOp .FloorDiv) (rI CDv fun i j => .int (i.fdiv j)) := opI fun i j _ _ _ _ _ hc q =>
  PyProof.Rows.floordiv_int hc.1 q (.inl (PyProof.noPylong_of_log2 (PySem.Flt.log2_lt_of (by decide) hc.2)))
theorem o_fdiv : OpR X (binaryOp .FloorDiv) (r2 X.K M g (bin .fdiv)) := by
  refine opImp op_fdivA fun x y H Q ⟨W, s, d1, d2, E, S, r1, r2, P⟩ => ?_
  unfold bin at P
  dsimp only at P
  split at P
  · cases r1; cases r2
    split at P
    · rename_i h
      exact ⟨_, _, rfl, rfl, h, P.int S⟩
    · exact P.elim
  · exact P.elim
theorem o_mod : OpR X (binaryOp .Mod) (r2 X.K M g (bin .mod)) := by
  refine opImp op_modN fun x y H Q ⟨W, s, d1, d2, E, S, r1, r2, P⟩ => ?_
  unfold bin at P
  dsimp only at P
  split at P
  · cases r1; cases r2
    split at P
    · rename_i h
      exact ⟨_, _, rfl, rfl, h, P.int S⟩
    · exact P.elim
  · exact P.elim
theorem o_pow : OpR X (binaryOp .Pow) (r2 X.K M g (bin .pow)) := by
  refine opImp op_pow fun x y H Q ⟨W, s, d1, d2, E, S, r1, r2, P⟩ => ?_
  unfold bin at P
  dsimp only at P
  split at P
  · cases r1; cases r2
    split at P
    · rename_i h
      exact ⟨_, _, rfl, rfl, ⟨h.1, by omega, h.2.2⟩, P.int S⟩
    · exact P.elim
  · exact P.elim
def bopOf : Operator → Option Bop
  | .Add => some .add
  | .Sub => some .sub
  | .Mult => some .mul
  | .FloorDiv => some .fdiv
  | .Mod => some .mod
  | .Pow => some .pow
  | _ => none
theorem o_bin {o : Operator} {b : Bop} (h : bopOf o = some b) : OpR X (binaryOp o) (r2 X.K M g (bin b)) := by
  cases o <;> first | (cases h; first | exact o_add | exact o_sub | exact o_mul | exact o_fdiv | exact o_mod | exact o_pow) | (simp [bopOf] at h)

/-! ### data -/
mutual
def toPy : D → PyData
  | .non => .none
  | .bl b => .bool b
  | .int i => .int i
  | .str cs => .str (cOf cs)
  | .tup ds => .tuple (toPyL ds)
  | .ktup ds => .tuple (toPyL ds)
  | .frz (.lst ds) => .list (toPyL ds)
  | _ => .none
def toPyL : List D → List PyData
  | [] => []
  | d :: r => toPy d :: toPyL r
end
section
variable {K : PySem.W.Frag} {W : Wd} {H : Hp} {s : Sto}
mutual
theorem dat_dp (S : StR K M W H g s) : ∀ {n : Nat} {v : V} {d : D}, Rl K M W v d → dat n d = true → Dp K H v (toPy d)
  | _, _, _, .non, _ => by simp only [toPy]; exact .non
  | _, _, _, .bl, _ => by simp only [toPy]; exact .bl _
  | _, _, _, .int, _ => by simp only [toPy]; exact .int _
  | _, _, _, .str, _ => by simp only [toPy]; exact .str _
  | n + 1, _, _, .tup h r, e => by
    simp only [toPy]
    exact .tup (SqT.of (rdx_tup (S.fz _ _ h))) (dat_dpL S r (by simpa [dat] using e))
  | n + 1, _, _, .ktup h r, e => by
    simp only [toPy]
    exact .tup (h H) (dat_dpL S r (by simpa [dat] using e))
  | n + 1, _, _, .frz h r, e => by
    cases r with
    | lst r =>
      simp only [toPy]
      exact .lst (SqL.of (rdx_lst (S.fz _ _ h))) (dat_dpL S r (by simpa [dat] using e))
    | _ => simp [dat] at e
  | 0, _, _, .tup h r, e => by simp [dat] at e
  | 0, _, _, .ktup h r, e => by simp [dat] at e
  | 0, _, _, .frz h r, e => by cases r <;> simp [dat] at e
  | _, _, _, .klst h r, e => by simp [dat] at e
  | _, _, _, .loc h, e => by simp [dat] at e
theorem dat_dpL (S : StR K M W H g s) : ∀ {n : Nat} {vs : List V} {ds : List D}, RlL K M W vs ds → datL n ds = true → DpAll K H vs (toPyL ds)
  | _, _, _, .nil, _ => by simp only [toPyL]; exact .nil
  | _, _, _, .cons a b, e => by
    simp only [datL, Bool.and_eq_true] at e
    simp only [toPyL]
    exact .cons (dat_dp S a e.1) (dat_dpL S b e.2)
end
mutual
theorem dat_lay : ∀ (n : Nat) (d : D), dat n d = true → (toPy d).canLay0 = true ∧ (toPy d).depth ≤ n
  | n, .non, _ => by simp [toPy, PyData.canLay0, PyData.depth]
  | n, .bl _, _ => by simp [toPy, PyData.canLay0, PyData.depth]
  | n, .int _, _ => by simp [toPy, PyData.canLay0, PyData.depth]
  | n, .str cs, e => by
    simp only [dat] at e
    simp only [toPy, PyData.canLay0, PyData.depth, Nat.zero_le, and_true]
    show (cOf cs).cps.all (· < 0x110000) = true
    rw [← Array.all_toList]
    simpa [cOf] using e
  | n + 1, .tup ds, e => by
    have q := datL_lay n ds (by simpa [dat] using e)
    simp only [toPy, PyData.canLay0, PyData.depth]
    exact ⟨q.1, Nat.succ_le_succ q.2⟩
  | n + 1, .ktup ds, e => by
    have q := datL_lay n ds (by simpa [dat] using e)
    simp only [toPy, PyData.canLay0, PyData.depth]
    exact ⟨q.1, Nat.succ_le_succ q.2⟩
  | n + 1, .frz (.lst ds), e => by
    have q := datL_lay n ds (by simpa [dat] using e)
    simp only [toPy, PyData.canLay0, PyData.depth]
    exact ⟨q.1, Nat.succ_le_succ q.2⟩
  | 0, .tup _, e => by simp [dat] at e
  | 0, .ktup _, e => by simp [dat] at e
  | 0, .frz (.lst _), e => by simp [dat] at e
  | n, .frz (.dct _ _), e => by cases n <;> simp [dat] at e
  | n, .frz (.ins _ _), e => by cases n <;> simp [dat] at e
  | n, .frz (.lk _), e => by cases n <;> simp [dat] at e
  | n, .frz .dead, e => by cases n <;> simp [dat] at e
  | n, .klst _, e => by cases n <;> simp [dat] at e
  | n, .loc _, e => by cases n <;> simp [dat] at e
theorem datL_lay : ∀ (n : Nat) (ds : List D), datL n ds = true → PyData.canLayAll0 (toPyL ds) = true ∧ PyData.depthAll (toPyL ds) ≤ n
  | n, [], _ => by simp [toPyL, PyData.canLayAll0, PyData.depthAll]
  | n, d :: r, e => by
    simp only [datL, Bool.and_eq_true] at e
    have a := dat_lay n d e.1
    have b := datL_lay n r e.2
    simp only [toPyL, PyData.canLayAll0, PyData.depthAll, a.1, b.1, Bool.and_self, true_and]
    omega
end
theorem dat_shaped {d : D} (e : dat 60 d = true) : SeqAt.shaped (toPy d) = true := by
  have q := dat_lay 60 d e
  unfold SeqAt.shaped
  rw [q.1, Bool.true_and]
  exact decide_eq_true (by omega)
theorem dat_tup {n : Nat} {ds : List D} (h : dat n (.tup ds) = true) : ∃ k, datL k ds = true := by
  cases n with
  | zero => simp [dat] at h
  | succ k => exact ⟨k, by simpa [dat] using h⟩
theorem dat_ktup {n : Nat} {ds : List D} (h : dat n (.ktup ds) = true) : ∃ k, datL k ds = true := by
  cases n with
  | zero => simp [dat] at h
  | succ k => exact ⟨k, by simpa [dat] using h⟩
theorem dat_frz {n : Nat} {o : Ob} (h : dat n (.frz o) = true) : ∃ k ds, o = .lst ds ∧ datL k ds = true := by
  cases n with
  | zero => cases o <;> simp [dat] at h
  | succ k => cases o <;> first | exact ⟨k, _, rfl, by simpa [dat] using h⟩ | simp [dat] at h
theorem dat_klst {n : Nat} {ds : List D} (h : dat n (.klst ds) = true) : False := by cases n <;> simp [dat] at h
theorem dat_loc {n l : Nat} (h : dat n (.loc l) = true) : False := by cases n <;> simp [dat] at h
theorem b_dec {a b : Bool} {p : Prop} [Decidable p] (h : a = true ↔ p) : a = decide p := by
  by_cases q : p
  · rw [decide_eq_true q]; exact h.mpr q
  · rw [decide_eq_false q]
    cases a with
    | true => exact absurd (h.mp rfl) q
    | false => rfl
theorem cOf_beq (a b : List Nat) : (cOf a == cOf b) = decide (a = b) := by
  by_cases h : a = b
  · subst h; simp
  · rw [decide_eq_false h]
    exact beq_eq_false_iff_ne.mpr fun q => h (cOf_inj q)
mutual
theorem peq_eqv : ∀ (a b : D) (n m : Nat), dat n a = true → dat m b = true → PyData.eqv (toPy a) (toPy b) = peq a b
  | .non, b, n, m, _, hb => by
    cases b with
    | frz o => obtain ⟨k, ds, rfl, _⟩ := dat_frz hb; simp only [toPy, PyData.eqv, peq]
    | klst _ => exact (dat_klst hb).elim
    | loc _ => exact (dat_loc hb).elim
    | _ => simp only [toPy, PyData.eqv, peq]
  | .bl x, b, n, m, _, hb => by
    cases b with
    | frz o => obtain ⟨k, ds, rfl, _⟩ := dat_frz hb; simp only [toPy, PyData.eqv, peq]
    | klst _ => exact (dat_klst hb).elim
    | loc _ => exact (dat_loc hb).elim
    | int i => simp only [toPy, PyData.eqv, peq]; rw [Bool.beq_eq_decide_eq]
    | _ => simp only [toPy, PyData.eqv, peq]
  | .int x, b, n, m, _, hb => by
    cases b with
    | frz o => obtain ⟨k, ds, rfl, _⟩ := dat_frz hb; simp only [toPy, PyData.eqv, peq]
    | klst _ => exact (dat_klst hb).elim
    | loc _ => exact (dat_loc hb).elim
    | bl i => simp only [toPy, PyData.eqv, peq]; rw [Bool.beq_eq_decide_eq]
    | int i => simp only [toPy, PyData.eqv, peq]; rw [Bool.beq_eq_decide_eq]
    | _ => simp only [toPy, PyData.eqv, peq]
  | .str x, b, n, m, _, hb => by
    cases b with
    | frz o => obtain ⟨k, ds, rfl, _⟩ := dat_frz hb; simp only [toPy, PyData.eqv, peq]
    | klst _ => exact (dat_klst hb).elim
    | loc _ => exact (dat_loc hb).elim
    | str i => simp only [toPy, PyData.eqv, peq]; exact cOf_beq _ _
    | _ => simp only [toPy, PyData.eqv, peq]
  | .tup x, b, n, m, ha, hb => by
    obtain ⟨k, hx⟩ := dat_tup ha
    cases b with
    | frz o => obtain ⟨k, ds, rfl, _⟩ := dat_frz hb; simp only [toPy, PyData.eqv, peq]
    | klst _ => exact (dat_klst hb).elim
    | loc _ => exact (dat_loc hb).elim
    | tup y => obtain ⟨j, hy⟩ := dat_tup hb; simp only [toPy, PyData.eqv, peq]; exact peqL_eqv x y k j hx hy
    | ktup y => obtain ⟨j, hy⟩ := dat_ktup hb; simp only [toPy, PyData.eqv, peq]; exact peqL_eqv x y k j hx hy
    | _ => simp only [toPy, PyData.eqv, peq]
  | .ktup x, b, n, m, ha, hb => by
    obtain ⟨k, hx⟩ := dat_ktup ha
    cases b with
    | frz o => obtain ⟨k, ds, rfl, _⟩ := dat_frz hb; simp only [toPy, PyData.eqv, peq]
    | klst _ => exact (dat_klst hb).elim
    | loc _ => exact (dat_loc hb).elim
    | tup y => obtain ⟨j, hy⟩ := dat_tup hb; simp only [toPy, PyData.eqv, peq]; exact peqL_eqv x y k j hx hy
    | ktup y => obtain ⟨j, hy⟩ := dat_ktup hb; simp only [toPy, PyData.eqv, peq]; exact peqL_eqv x y k j hx hy
    | _ => simp only [toPy, PyData.eqv, peq]
  | .frz (.lst x), b, n, m, ha, hb => by
    obtain ⟨k, ds, e, hx⟩ := dat_frz ha
    cases e
    cases b with
    | frz o => obtain ⟨j, ds, rfl, hy⟩ := dat_frz hb; simp only [toPy, PyData.eqv, peq]; exact peqL_eqv x ds k j hx hy
    | klst _ => exact (dat_klst hb).elim
    | loc _ => exact (dat_loc hb).elim
    | _ => simp only [toPy, PyData.eqv, peq]
  | .frz (.dct _ _), _, _, _, ha, _ => by obtain ⟨_, _, e, _⟩ := dat_frz ha; cases e
  | .frz (.ins _ _), _, _, _, ha, _ => by obtain ⟨_, _, e, _⟩ := dat_frz ha; cases e
  | .frz (.lk _), _, _, _, ha, _ => by obtain ⟨_, _, e, _⟩ := dat_frz ha; cases e
  | .frz .dead, _, _, _, ha, _ => by obtain ⟨_, _, e, _⟩ := dat_frz ha; cases e
  | .klst _, _, _, _, ha, _ => (dat_klst ha).elim
  | .loc _, _, _, _, ha, _ => (dat_loc ha).elim
theorem peqL_eqv : ∀ (a b : List D) (n m : Nat), datL n a = true → datL m b = true → PyData.eqvAll (toPyL a) (toPyL b) = peqL a b
  | [], [], _, _, _, _ => by simp only [toPyL, PyData.eqvAll, peqL]
  | [], _ :: _, _, _, _, _ => by simp only [toPyL, PyData.eqvAll, peqL]
  | _ :: _, [], _, _, _, _ => by simp only [toPyL, PyData.eqvAll, peqL]
  | x :: r, y :: q, n, m, ha, hb => by
    simp only [datL, Bool.and_eq_true] at ha hb
    simp only [toPyL, PyData.eqvAll, peqL]
    rw [peq_eqv x y n m ha.1 hb.1, peqL_eqv r q n m ha.2 hb.2]
end
/-- .. a list at a place too -/
theorem deref_rl {v : V} {d : D} (r : Rl K M W v d) (S : StR K M W H g s) (e : dat 60 (deref d s) = true) : Dp K H v (toPy (deref d s)) := by
  cases r with
  | @loc l h =>
    unfold deref at e ⊢
    dsimp only at e ⊢
    split at e
    · rename_i ds hq
      obtain ⟨a, vs, e1, h1, q1⟩ := view_lst (H := H) (.loc h) S hq
      rw [e1]
      simp only [toPy]
      exact .lst (SqL.of h1) (dat_dpL S q1 (by simpa [dat] using e))
    · exact (dat_loc e).elim
  | _ => exact dat_dp S (by first | exact .non | exact .bl | exact .int | exact .str | (exact .tup (by assumption) (by assumption)) | (exact .ktup (by assumption) (by assumption)) | (exact .klst (by assumption) (by assumption)) | (exact .frz (by assumption) (by assumption))) e
end
/-! ### comparisons -/
/-- a comparison's answer as a value -/
def cmpV (op : Cop) (x y : D) (s : Sto) : R D := at? ((cmp op x y s).map .bl) s
theorem o_eq (hu : X.A.units + 64 < cLine) : OpR X (compareOp .Eq) (r2 X.K M g (cmpV .eq)) := by
  refine opImp (op_eqD hu) fun x y H Q ⟨W, s, d1, d2, E, S, r1, r2, P⟩ => ?_
  unfold cmpV cmp at P
  dsimp only at P
  split at P
  · rename_i h
    refine ⟨_, _, deref_rl r1 S h.1, deref_rl r2 S h.2, dat_shaped h.1, dat_shaped h.2, ?_⟩
    rw [peq_eqv _ _ _ _ h.1 h.2]
    exact P.bl S
  · exact P.elim
theorem o_ne (hu : X.A.units + 64 < cLine) : OpR X (compareOp .NotEq) (r2 X.K M g (cmpV .ne)) := by
  refine opImp (op_neD hu) fun x y H Q ⟨W, s, d1, d2, E, S, r1, r2, P⟩ => ?_
  unfold cmpV cmp at P
  dsimp only at P
  split at P
  · rename_i h
    refine ⟨_, _, deref_rl r1 S h.1, deref_rl r2 S h.2, dat_shaped h.1, dat_shaped h.2, ?_⟩
    rw [peq_eqv _ _ _ _ h.1 h.2]
    exact P.bl S
  · exact P.elim
theorem o_ord {o : CmpOp} {c : Cop} {p : Int → Int → Bool} (h : OpR X (compareOp o) (rI0 fun i j => .bl (p i j))) (hc : ∀ x y s, cmp c x y s = match x, y with | .int i, .int j => some (p i j) | _, _ => none) : OpR X (compareOp o) (r2 X.K M g (cmpV c)) := by
  refine opImp h fun x y H Q ⟨W, s, d1, d2, E, S, r1, r2, P⟩ => ?_
  unfold cmpV at P
  rw [hc] at P
  split at P
  · cases r1; cases r2
    exact ⟨_, _, rfl, rfl, P.bl S⟩
  · exact P.elim
theorem o_lt : OpR X (compareOp .Lt) (r2 X.K M g (cmpV .lt)) := o_ord op_lt fun x y s => by unfold cmp; rfl
theorem o_le : OpR X (compareOp .LtE) (r2 X.K M g (cmpV .le)) := o_ord op_le fun x y s => by unfold cmp; rfl
theorem o_gt : OpR X (compareOp .Gt) (r2 X.K M g (cmpV .gt)) := o_ord op_gt fun x y s => by unfold cmp; rfl
theorem o_ge : OpR X (compareOp .GtE) (r2 X.K M g (cmpV .ge)) := o_ord op_ge fun x y s => by unfold cmp; rfl
end
end Fn

set_option Elab.async false
set_option linter.all false
set_option maxRecDepth 100000
set_option maxHeartbeats 2000000
namespace Fn
open PySem L2
/-! ### keys -/
section
variable {K : PySem.W.Frag} {M : Nm} {W : Wd} {H : Hp} {g : Nat → Prop} {s : Sto}
theorem ky_ok {v : V} {d : D} {k : Ky} (r : Rl K M W v d) (e : kyOf d = some k) : v = kV k.k := by
  cases r with
  | int => cases e; rfl
  | str => cases e; rfl
  | _ => simp [kyOf] at e
theorem kys_ok : ∀ {vs : List V} {ds : List D} {ks : List Ky}, RlL K M W vs ds → kysOf ds = some ks → vs = (ks.map Ky.k).map kV
  | _, _, _, .nil, e => by simp [kysOf] at e; subst e; rfl
  | _, _, ks, .cons a b, e => by
    simp only [kysOf] at e
    split at e
    · rename_i k ks' h1 h2
      cases e
      rw [ky_ok a h1, kys_ok b h2]
      rfl
    · cases e
theorem Ky.k_inj {a b : Ky} (h : a.k = b.k) : a = b := by
  cases a with
  | i n => cases b with
    | i m => cases h; rfl
    | s _ => cases h
  | s x => cases b with
    | i m => cases h
    | s y =>
      have h2 := Sum.inr.inj h
      rw [cOf_inj h2]
theorem Ky.map_inj : ∀ {a b : List Ky}, a.map Ky.k = b.map Ky.k → a = b
  | [], [], _ => rfl
  | [], _ :: _, h => by cases h
  | _ :: _, [], h => by cases h
  | x :: a, y :: b, h => by
    have h' := List.cons.inj (show x.k :: a.map Ky.k = y.k :: b.map Ky.k from h)
    rw [Ky.k_inj h'.1, Ky.map_inj h'.2]
theorem RlK.get {k : Ky} : ∀ {vs : List (Key × V)} {es : List (GKey × D)}, RlK K M W vs es → match kget es (.one k) with
    | some d => ∃ v, valV vs k.k = some v ∧ Rl K M W v d
    | none => valV vs k.k = none
  | _, _, .nil => by simp [kget, valV]
  | _, _, .cons (k := j) (v := v) (d := d) a b => by
    have ih := RlK.get (k := k) b
    unfold kget
    by_cases q : j = k
    · subst q
      rw [if_pos rfl]
      exact ⟨v, by simp [valV], a⟩
    · rw [if_neg (fun z => q (by cases z; rfl))]
      have n : ¬ (j.k = k.k) := fun z => q (Ky.k_inj z)
      have e : ∀ l, valV ((j.k, v) :: l) k.k = valV l k.k := fun l => by simp [valV, List.find?_cons, n]
      rw [e]
      exact ih
theorem RlT.get {k : List Ky} : ∀ {vs : List (List Key × V)} {es : List (GKey × D)}, RlT K M W vs es → match kget es (.tp k) with
    | some d => ∃ v, valV vs (k.map Ky.k) = some v ∧ Rl K M W v d
    | none => valV vs (k.map Ky.k) = none
  | _, _, .nil => by simp [kget, valV]
  | _, _, .cons (k := j) (v := v) (d := d) a b => by
    have ih := RlT.get (k := k) b
    unfold kget
    by_cases q : j = k
    · subst q
      rw [if_pos rfl]
      exact ⟨v, by simp [valV], a⟩
    · rw [if_neg (fun z => q (by cases z; rfl))]
      have n : ¬ (j.map Ky.k = k.map Ky.k) := fun z => q (Ky.map_inj z)
      have e : ∀ l, valV ((j.map Ky.k, v) :: l) (k.map Ky.k) = valV l (k.map Ky.k) := fun l => by simp [valV, List.find?_cons, n]
      rw [e]
      exact ih
/-- a dict is asked for a key -/
theorem dget_ok {v y : V} {d k0 : D} {t : Bool} {es : List (GKey × D)} {k : GKey} (r : Rl K M W v d) (ry : Rl K M W y k0) (S : StR K M W H g s) (e : dctOf d s = some (t, es)) (ek : gkOf k0 = some k) (et : k.isT = t) :
    ∃ a o, v = .ref a ∧ DGet H a y o ∧ (match kget es k with | some d => ∃ v, o = some v ∧ Rl K M W v d | none => o = none) := by
  obtain ⟨a, rfl, h⟩ := dct_ok r S e
  cases k with
  | one k =>
    rcases h with ⟨rfl, kvs, h1, h2⟩ | ⟨rfl, _⟩
    · have ey : y = kV k.k := by
        cases ry with
        | int => cases ek; rfl
        | str => cases ek; rfl
        | tup _ _ => exfalso; revert ek; unfold gkOf; dsimp only; cases kysOf _ <;> intro z <;> cases z
        | _ => simp [gkOf, kyOf] at ek
      refine ⟨a, _, rfl, .inl ⟨kvs, k.k, h1.rd, ey, rfl⟩, ?_⟩
      have q := h2.get (k := k)
      exact q
    · cases et
  | tp k =>
    rcases h with ⟨rfl, _⟩ | ⟨rfl, kvs, h1, h2⟩
    · cases et
    · cases ry with
      | tup h3 q3 =>
        have ek : (kysOf _).map GKey.tp = some (.tp k) := ek
        cases hk : kysOf _ with
        | none => rw [hk] at ek; cases ek
        | some ks =>
          rw [hk] at ek
          cases ek
          have e2 := kys_ok q3 hk
          refine ⟨a, _, rfl, .inr ⟨kvs, k.map Ky.k, _, h1.rd, rfl, ?_, rfl⟩, h2.get (k := k)⟩
          rw [← e2]
          exact rdx_tup (S.fz _ _ h3)
      | int => simp [gkOf, kyOf] at ek
      | str => simp [gkOf, kyOf] at ek
      | _ => simp [gkOf, kyOf] at ek
end
section
variable {X : Cx} {M : Nm} {g : Nat → Prop}
theorem op_inDict (hu : X.A.units + 1 < cLine) : OpR X (compareOp .In) (fun x y H Q => ∃ a o, y = .ref a ∧ DGet H a x o ∧ Q (.bl o.isSome) H) := by
  intro pins s σ H x y v u Q I rx ry h
  obtain ⟨a, o, rfl, g, q⟩ := h
  obtain rfl : u = Value.ref a := ry
  exact d_in hu I g rx fun s3 I3 => ⟨.bl o.isSome, H, I3, rfl, q⟩
theorem op_notInDict (hu : X.A.units + 1 < cLine) : OpR X (compareOp .NotIn) (fun x y H Q => ∃ a o, y = .ref a ∧ DGet H a x o ∧ Q (.bl (!o.isSome)) H) := by
  intro pins s σ H x y v u Q I rx ry h
  obtain ⟨a, o, rfl, g, q⟩ := h
  obtain rfl : u = Value.ref a := ry
  exact d_notIn hu I g rx fun s3 I3 => ⟨.bl (!o.isSome), H, I3, rfl, q⟩
theorem op_inT (hu : X.A.units + 65 < cLine) : OpR X (compareOp .In) (fun x y H Q => ∃ d ds, Dp X.K H x d ∧ Dp X.K H y (.tuple ds) ∧ SeqAt.shaped d = true ∧ SeqAt.shaped (.tuple ds) = true ∧ Q (.bl (ds.any fun z => PyData.eqv z d)) H) := by
  intro pins s σ H x y v u Q I rx ry h
  obtain ⟨d, ds, hd, he, sd, se, q⟩ := h
  obtain ⟨as, r1⟩ := Dp.reads I d x v hd rx
  obtain ⟨bs, r2⟩ := Dp.reads I (.tuple ds) y u he ry
  exact SeqAt.in_tuple_reads r2 r1 (SeqAt.canLay_of_shaped se) (SeqAt.canLay_of_shaped sd) (PyProof.Rows.room_in_shaped sd hu) ⟨.bl _, H, I, rfl, q⟩
theorem op_notInT (hu : X.A.units + 65 < cLine) : OpR X (compareOp .NotIn) (fun x y H Q => ∃ d ds, Dp X.K H x d ∧ Dp X.K H y (.tuple ds) ∧ SeqAt.shaped d = true ∧ SeqAt.shaped (.tuple ds) = true ∧ Q (.bl (!ds.any fun z => PyData.eqv z d)) H) := by
  intro pins s σ H x y v u Q I rx ry h
  obtain ⟨d, ds, hd, he, sd, se, q⟩ := h
  obtain ⟨as, r1⟩ := Dp.reads I d x v hd rx
  obtain ⟨bs, r2⟩ := Dp.reads I (.tuple ds) y u he ry
  exact SeqAt.notIn_tuple_reads r2 r1 (SeqAt.canLay_of_shaped se) (SeqAt.canLay_of_shaped sd) (PyProof.Rows.room_in_shaped sd hu) ⟨.bl _, H, I, rfl, q⟩
theorem any_eqv {d : D} (hd : dat 60 d = true) : ∀ {ds : List D}, datL 60 ds = true → ((toPyL ds).any fun z => PyData.eqv z (toPy d)) = ds.any fun e => peq e d
  | [], _ => by simp [toPyL]
  | e :: r, h => by
    simp only [datL, Bool.and_eq_true] at h
    simp only [toPyL, List.any_cons]
    rw [peq_eqv _ _ _ _ h.1 hd, any_eqv hd h.2]
/-- how a membership is found -/
theorem in_ok {K : PySem.W.Frag} {W : Wd} {H : Hp} {s : Sto} {x y : V} {d1 d2 : D} {b : Bool} (S : StR K M W H g s) (r1 : Rl K M W x d1) (r2 : Rl K M W y d2) (e : inOf d1 d2 s = some b) :
    (∃ a o, y = .ref a ∧ DGet H a x o ∧ o.isSome = b) ∨ (∃ d ds, Dp K H x d ∧ Dp K H y (.list ds) ∧ SeqAt.shaped d = true ∧ SeqAt.shaped (.list ds) = true ∧ (ds.any fun z => PyData.eqv z d) = b) ∨
    (∃ d ds, Dp K H x d ∧ Dp K H y (.tuple ds) ∧ SeqAt.shaped d = true ∧ SeqAt.shaped (.tuple ds) = true ∧ (ds.any fun z => PyData.eqv z d) = b) ∨ (∃ (c : Nat) (z : PySem.Str), x = .str ⟨#[c]⟩ ∧ y = .str z ∧ decide (c ∈ z.cps.toList) = b) := by
  unfold inOf at e
  split at e
  · rename_i t kvs hk
    cases hg : gkOf d1 with
    | none => rw [hg] at e; cases e
    | some k =>
      rw [hg] at e
      have e : (if k.isT = t then some (kget kvs k).isSome else none) = some b := e
      split at e
      · rename_i ht
        obtain ⟨a, o, rfl, hD, ho⟩ := dget_ok r2 r1 S hk hg ht
        refine .inl ⟨a, o, rfl, hD, ?_⟩
        have e := Option.some.inj e
        rw [← e]
        revert ho
        cases kget kvs k with
        | none => intro ho; rw [ho]; rfl
        | some d => rintro ⟨v, rfl, _⟩; rfl
      · cases e
  · split at e
    · rename_i ds hs
      unfold memL at e
      split at e
      · rename_i hd
        have e := Option.some.inj e
        have sh : SeqAt.shaped (.list (toPyL ds)) = true ∧ SeqAt.shaped (.tuple (toPyL ds)) = true := by
          have q := datL_lay 60 ds hd.2
          unfold SeqAt.shaped
          simp only [PyData.canLay0, PyData.depth, q.1, Bool.true_and]
          exact ⟨decide_eq_true (by omega), decide_eq_true (by omega)⟩
        obtain ⟨a, vs, rfl, hq, rl⟩ := seq_ok r2 S hs
        have da := dat_dpL S rl hd.2
        rcases hq with hq | hq
        · exact .inr (.inl ⟨_, _, dat_dp S r1 hd.1, .lst hq da, dat_shaped hd.1, sh.1, by rw [any_eqv hd.1 hd.2]; exact e⟩)
        · exact .inr (.inr (.inl ⟨_, _, dat_dp S r1 hd.1, .tup hq da, dat_shaped hd.1, sh.2, by rw [any_eqv hd.1 hd.2]; exact e⟩))
      · cases e
    · split at e
      · cases r1; cases r2
        refine .inr (.inr (.inr ⟨_, _, rfl, rfl, ?_⟩))
        have e := Option.some.inj e
        rw [← e]
        exact decide_eq_decide.mpr (by simp [cOf])
      · cases e
theorem o_in (hu : X.A.units + 65 < cLine) : OpR X (compareOp .In) (r2 X.K M g (cmpV .isin)) := by
  refine opImp (((op_inDict (by omega)).or (op_inD hu)).or ((op_inT hu).or op_in_sign)) fun x y H Q ⟨W, s, d1, d2, E, S, r1, r2, P⟩ => ?_
  obtain ⟨b, e, P⟩ := Post.at P
  have e : (inOf d1 d2 s).map D.bl = some b := e
  cases hi : inOf d1 d2 s with
  | none => rw [hi] at e; cases e
  | some c =>
    rw [hi] at e
    cases e
    have q := P.bl S
    rcases in_ok S r1 r2 hi with ⟨a, o, h1, h2, h3⟩ | ⟨d, ds, h1, h2, h3, h4, h5⟩ | ⟨d, ds, h1, h2, h3, h4, h5⟩ | ⟨c, z, h1, h2, h3⟩
    · exact .inl (.inl ⟨a, o, h1, h2, by rw [h3]; exact q⟩)
    · exact .inl (.inr ⟨d, ds, h1, h2, h3, h4, by rw [h5]; exact q⟩)
    · exact .inr (.inl ⟨d, ds, h1, h2, h3, h4, by rw [h5]; exact q⟩)
    · exact .inr (.inr ⟨c, z, h1, h2, by rw [h3]; exact q⟩)
theorem o_notin (hu : X.A.units + 65 < cLine) : OpR X (compareOp .NotIn) (r2 X.K M g (cmpV .notin)) := by
  refine opImp (((op_notInDict (by omega)).or (op_notInD hu)).or ((op_notInT hu).or op_notIn_sign)) fun x y H Q ⟨W, s, d1, d2, E, S, r1, r2, P⟩ => ?_
  obtain ⟨b, e, P⟩ := Post.at P
  have e : ((inOf d1 d2 s).map fun b => !b).map D.bl = some b := e
  cases hi : inOf d1 d2 s with
  | none => rw [hi] at e; cases e
  | some c =>
    rw [hi] at e
    cases e
    have q := P.bl S
    rcases in_ok S r1 r2 hi with ⟨a, o, h1, h2, h3⟩ | ⟨d, ds, h1, h2, h3, h4, h5⟩ | ⟨d, ds, h1, h2, h3, h4, h5⟩ | ⟨c, z, h1, h2, h3⟩
    · exact .inl (.inl ⟨a, o, h1, h2, by rw [h3]; exact q⟩)
    · exact .inl (.inr ⟨d, ds, h1, h2, h3, h4, by rw [h5]; exact q⟩)
    · exact .inr (.inl ⟨d, ds, h1, h2, h3, h4, by rw [h5]; exact q⟩)
    · exact .inr (.inr ⟨c, z, h1, h2, by rw [h3]; exact q⟩)
def copOf : CmpOp → Option Cop
  | .Eq => some .eq
  | .NotEq => some .ne
  | .Lt => some .lt
  | .LtE => some .le
  | .Gt => some .gt
  | .GtE => some .ge
  | .In => some .isin
  | .NotIn => some .notin
  | _ => none
theorem o_cmp (hu : X.A.units + 65 < cLine) {o : CmpOp} {c : Cop} (h : copOf o = some c) : OpR X (compareOp o) (r2 X.K M g (cmpV c)) := by
  cases o <;> first | (cases h; first | exact o_eq (by omega) | exact o_ne (by omega) | exact o_lt | exact o_le | exact o_gt | exact o_ge | exact o_in hu | exact o_notin hu) | (simp [copOf] at h)

/-! ### truth -/
theorem truth_ok {K : PySem.W.Frag} {W : Wd} {H : Hp} {s : Sto} {x : V} {d : D} {b : Bool} (S : StR K M W H g s) (r : Rl K M W x d) (e : truth d s = some b) :
    TruV K x H b ∨ ∃ a kvs, x = .ref a ∧ Rd H a (.dK kvs) ∧ b = !kvs.isEmpty := by
  have seq : ∀ {a : Addr} {vs : List V} {ds : List D}, (SqL K H a vs ∨ SqT K H a vs) → RlL K M W vs ds → TruV K (.ref a) H (!ds.isEmpty) := fun h q => by
    rw [← q.isEmpty]
    rcases h with h | h
    · exact .inl ⟨_, h, rfl⟩
    · exact .inr (.inl ⟨_, h, rfl⟩)
  have gen : ∀ {d : D}, Rl K M W x d → (match seqOf d s with | some ds => some (!ds.isEmpty) | none => match dctOf d s with | some (false, kvs) => some (!kvs.isEmpty) | _ => none) = some b →
      TruV K x H b ∨ ∃ a kvs, x = .ref a ∧ Rd H a (.dK kvs) ∧ b = !kvs.isEmpty := fun r e => by
    split at e
    · rename_i ds hs
      obtain ⟨a, vs, rfl, hq, rl⟩ := seq_ok r S hs
      cases e
      exact .inl (seq hq rl)
    · split at e
      · rename_i kvs hk
        obtain ⟨a, rfl, ⟨_, kv, h1, h2⟩ | ⟨z, _⟩⟩ := dct_ok r S hk
        · cases e
          refine .inr ⟨a, kv, rfl, h1.rd, ?_⟩
          cases h2 <;> rfl
        · cases z
      · cases e
  cases r with
  | non => cases e; exact .inl rfl
  | bl => cases e; exact .inl rfl
  | int =>
    cases e
    refine .inl ?_
    show decide _ = (_ != (0 : Int))
    rw [bne, Bool.beq_eq_decide_eq, decide_not]
  | @str cs =>
    unfold truth at e
    dsimp only at e
    split at e
    · rename_i h
      cases e
      refine .inl ⟨by rw [cOf_len, ← lenLine_eq]; exact h, ?_⟩
      rw [cOf_len]
      cases cs with
      | nil => rfl
      | cons c r =>
        have n : ((List.length (c :: r) : Nat) : Int) ≠ 0 := by rw [List.length_cons]; omega
        rw [bne_iff_ne.mpr n]
        rfl
    · cases e
  | tup h q => exact gen (.tup h q) e
  | ktup h q => exact gen (.ktup h q) e
  | klst h q => exact gen (.klst h q) e
  | frz h q => exact gen (.frz h q) e
  | loc h => exact gen (.loc h) e
/-- a value's truth, dicts locked by a loop too -/
theorem tru_okA : TruR X (fun x H Q => ∃ k, (TruV X.K x H k ∨ ∃ a kvs, x = .ref a ∧ Rd H a (.dK kvs) ∧ k = !kvs.isEmpty) ∧ Q k H) := by
  intro pins s σ H x v Q I rx h
  obtain ⟨k, h | ⟨a, kvs, rfl, hd, rfl⟩, q⟩ := h
  · exact tru_ok pins s σ H x v Q I rx ⟨k, h, q⟩
  · obtain rfl : v = Value.ref a := rx
    exact d_truth I hd fun s' I' => ⟨H, I', q⟩
end
end Fn

set_option Elab.async false
set_option linter.all false
set_option maxRecDepth 100000
set_option maxHeartbeats 2000000
namespace Fn
open PySem L2 PySem.Spec PyProof.Rows
section
variable {X : Cx} {M : Nm} {g : Nat → Prop}
/-! ### subscripts -/
theorem ixImp {r r' : R2} (h : IxR X r) (i : ∀ x y H Q, r' x y H Q → r x y H Q) : IxR X r' := fun value slice pins s σ H x y v u Q I rx ry q => h value slice pins s σ H x y v u Q I rx ry (i _ _ _ _ q)
theorem ix_dict (hu : X.A.units + 1 < cLine) : IxR X (fun x y H Q => ∃ a v, x = .ref a ∧ DGet H a y (some v) ∧ Q v H) := by
  intro value slice pins s σ H x y v u Q I rx ry h hs
  obtain ⟨a, w, rfl, gt, q⟩ := h
  obtain rfl : v = Value.ref a := rx
  have hT := dict_typeIs I gt
  unfold subscriptTail
  refine wpAny_bind ?_
  rw [getitemInPython_of_ne hT.not_modules]
  refine wpAny_bind (wpAny_specialOf hT PySem.F.slot_dict_getitem.lookup ?_)
  have fin : wpAny (model X.prog X.w) X.A (subscripted slice false (.ref a) u) (fun r s₃ => wpAny (model X.prog X.w) X.A (letTemporaryGo value (.ref a) r >>= fun _ => pure r) (EP X pins σ Q) X.xe s₃) X.xe s := by
    rw [hs]
    exact wpAny_operating (wpAny_mono (d_getItem hu I gt ry (Q := EP X pins σ Q) fun w' s3 I3 rw' => ⟨w, H, I3, rw', q⟩) (fun r s₃ h₃ => wpAny_bind (wpAny_letTemporaryGo (wpAny_pure h₃))) fun _ _ x => x)
  first
    | exact wpAny_pure (wpAny_bind fin)
    | exact wpAny_bind (wpAny_pure (wpAny_bind fin))
    | exact wpAny_bind fin
theorem ixAt_eq {α : Type} (l : List α) (i : Int) {x : α} (h : ixAt l i = some x) : atI l i = some x := by
  unfold ixAt at h
  unfold atI ixN
  by_cases h0 : 0 ≤ i
  · rw [if_pos h0] at h ⊢
    have hl := (List.getElem?_eq_some_iff.mp h).1
    rw [if_pos (by omega)]
    exact h
  · rw [if_neg h0] at h ⊢
    split at h
    · rename_i h1
      rw [if_pos (by omega)]
      exact h
    · cases h
theorem atI_rl {K : PySem.W.Frag} {W : Wd} {vs : List V} {ds : List D} {i : Int} {d : D} (r : RlL K M W vs ds) (h : ixAt ds i = some d) : ∃ v, atI vs i = some v ∧ Rl K M W v d := by
  unfold ixAt at h
  have hl := r.length
  by_cases h0 : 0 ≤ i
  · rw [if_pos h0] at h
    obtain ⟨v, h1, h2⟩ := r.get h
    refine ⟨v, ixAt_eq _ _ ?_, h2⟩
    unfold ixAt
    rw [if_pos h0]
    exact h1
  · rw [if_neg h0] at h
    split at h
    · rename_i h1
      obtain ⟨v, h2, h3⟩ := r.get h
      refine ⟨v, ixAt_eq _ _ ?_, h3⟩
      unfold ixAt
      rw [if_neg h0, hl, if_pos h1]
      exact h2
    · cases h
def idxV (x y : D) (s : Sto) : R D := at? (idx x y s) s
theorem o_idx (hu : X.A.units + 1 < cLine) : IxR X (r2 X.K M g idxV) := by
  refine ixImp ((ix_dict hu).or ix_seq) fun x y H Q ⟨W, s, d1, d2, E, S, r1, r2, P⟩ => ?_
  obtain ⟨d, e, P2⟩ := Post.at P
  clear P
  unfold idx at e
  split at e
  · rename_i t kvs hk
    cases hg : gkOf d2 with
    | none => rw [hg] at e; cases e
    | some k =>
      rw [hg] at e
      have e : (if k.isT = t then kget kvs k else none) = some d := e
      split at e
      · rename_i ht
        obtain ⟨a, o, rfl, hD, ho⟩ := dget_ok r1 r2 S hk hg ht
        rw [e] at ho
        obtain ⟨v, rfl, rv⟩ := ho
        exact .inl ⟨a, v, rfl, hD, P2.ok S rv⟩
      · cases e
  · split at e
    · split at e
      · rename_i ds hs
        cases r2
        obtain ⟨a, vs, rfl, hq, rl⟩ := seq_ok r1 S hs
        obtain ⟨v, h1, h2⟩ := atI_rl rl e
        rcases hq with hq | hq
        · exact .inr (.inl ⟨a, vs, _, v, rfl, rfl, hq, h1, P2.ok S h2⟩)
        · exact .inr (.inr (.inl ⟨a, vs, _, v, rfl, rfl, hq, h1, P2.ok S h2⟩))
      · cases r2
        cases r1 with
        | @str cs0 =>
          dsimp only at e
          split at e
          · rename_i hl
            obtain ⟨c, hc, rfl⟩ := Option.map_eq_some_iff.mp e
            refine .inr (.inr (.inr ⟨cOf cs0, _, c, rfl, rfl, by rw [cOf_len, ← lenLine_eq]; exact hl, ?_, P2.str S⟩))
            have e2 : (cOf cs0).cps.toList = cs0 := by simp [cOf]
            rw [e2]
            exact ixAt_eq _ _ hc
          · cases e
        | _ => cases e
    · cases e
/-! ### slices -/
theorem slImp {r r' : V → Option Int → Option Int → Hp → VK → Prop} (h : SlR X r) (i : ∀ x lo hi H Q, r' x lo hi H Q → r x lo hi H Q) : SlR X r' := fun pins s σ H x v vl vu lo hi sl Q I rx a b c q => h pins s σ H x v vl vu lo hi sl Q I rx a b c (i _ _ _ _ _ q)
theorem cut_eq {α : Type} (l : List α) (lo hi : Option Int) : cutL l lo hi = (l.drop (HT.sIx l.length 0 lo)).take (HT.sIx l.length l.length hi - HT.sIx l.length 0 lo) := by
  cases lo <;> cases hi <;> rfl
theorem cut_rl {K : PySem.W.Frag} {W : Wd} {vs : List V} {ds : List D} {lo hi : Option Int} (r : RlL K M W vs ds) : RlL K M W (cutV vs lo hi) (cutL ds lo hi) := by
  rw [cut_eq]
  unfold cutV
  rw [r.length]
  exact (r.drop _).take _
def rSl (K : PySem.W.Frag) (M : Nm) (g : Nat → Prop) (m : Bool) : V → Option Int → Option Int → Hp → VK → Prop := fun x lo hi H Q => ∃ W s d E, StR K M W H g s ∧ Rl K M W x d ∧ Post K M g (Rl K M) E W Q (slc m d lo hi s)
theorem o_slc {m : Bool} : SlR X (rSl X.K M g m) := by
  refine slImp ((sl_list.or sl_tupA).or sl_str) fun x lo hi H Q ⟨W, s, d, E, S, r, P⟩ => ?_
  have gen : ∀ {d : D}, Rl X.K M W x d → Post X.K M g (Rl X.K M) E W Q (match lstOf d s with | some ds => mkOb m (.lst (cutL ds lo hi)) s | none => .no) → rSlL X.K x lo hi H Q := fun r P => by
    split at P
    · rename_i ds hs
      obtain ⟨a, vs, rfl, hq, rl⟩ := lst_ok r S hs
      exact ⟨a, vs, rfl, hq, fun p hp => P.mk S (.lst (cut_rl rl)) hp⟩
    · exact P.elim
  cases r with
  | @str cs0 =>
    unfold slc at P
    dsimp only at P
    split at P
    · rename_i h
      refine .inr ⟨_, rfl, by rw [cOf_len, ← lenLine_eq]; exact h, ?_⟩
      have e : cutS (cOf cs0) lo hi = cOf (cutL cs0 lo hi) := by
        rw [cut_eq]
        unfold cutS
        rw [cOf_len]
        simp only [cOf, List.size_toArray]
      rw [e]
      exact P.str S
    · exact P.elim
  | @tup a0 vs0 ds0 h q =>
    refine .inl (.inr ⟨_, _, rfl, SqT.of (rdx_tup (S.fz _ _ h)), fun z => ?_, fun z p hp => P.tup S (cut_rl q) hp⟩)
    have P : Post X.K M g (Rl X.K M) E W Q (.ok (.tup (cutL ds0 lo hi)) s) := P
    rw [cut_eq, ← q.length, z.1, z.2] at P
    refine P.ok S (.tup h ?_)
    rw [List.drop_zero, Nat.sub_zero, q.length, List.take_length]
    exact q
  | klst h q => exact .inl (.inl (gen (.klst h q) P))
  | frz h q => exact .inl (.inl (gen (.frz h q) P))
  | loc h => exact .inl (.inl (gen (.loc h) P))
  | ktup h q => exact .inl (.inl (gen (.ktup h q) P))
  | _ => exact P.elim
end
end Fn

set_option Elab.async false
set_option linter.all false
set_option maxRecDepth 100000
set_option maxHeartbeats 2000000
namespace Fn
open PySem L2 PySem.Spec PyProof.Rows
section
variable {K : PySem.W.Frag} {M : Nm} {W : Wd} {H : Hp} {g : Nat → Prop} {s : Sto}
theorem one_rl {vs : List V} {d : D} (r : RlL K M W vs [d]) : ∃ v, vs = [v] ∧ Rl K M W v d := by
  cases r with
  | cons a b => cases b; exact ⟨_, rfl, a⟩
theorem two_rl {vs : List V} {d e : D} (r : RlL K M W vs [d, e]) : ∃ v u, vs = [v, u] ∧ Rl K M W v d ∧ Rl K M W u e := by
  cases r with
  | cons a b => obtain ⟨u, rfl, c⟩ := one_rl b; exact ⟨_, _, rfl, a, c⟩
theorem ints_rl : ∀ {vs : List V} {ds : List D} {ns : List Int}, RlL K M W vs ds → intsOf ds = some ns → vs = ns.map V.int
  | _, _, _, .nil, e => by simp [intsOf] at e; subst e; rfl
  | _, _, _, .cons a b, e => by
    cases a with
    | int =>
      simp only [intsOf] at e
      obtain ⟨ms, h1, rfl⟩ := Option.map_eq_some_iff.mp e
      rw [ints_rl b h1]
      rfl
    | _ => simp [intsOf] at e
theorem rl_ints : ∀ (ns : List Int), RlL K M W (ns.map V.int) (ns.map D.int)
  | [] => .nil
  | n :: r => .cons .int (rl_ints r)
theorem bools_rl : ∀ {vs : List V} {ds : List D} {ns : List Bool}, RlL K M W vs ds → boolsOf ds = some ns → vs = ns.map V.bl
  | _, _, _, .nil, e => by simp [boolsOf] at e; subst e; rfl
  | _, _, _, .cons a b, e => by
    cases a with
    | bl =>
      simp only [boolsOf] at e
      obtain ⟨ms, h1, rfl⟩ := Option.map_eq_some_iff.mp e
      rw [bools_rl b h1]
      rfl
    | _ => simp [boolsOf] at e
theorem intsOf_map : ∀ ns : List Int, intsOf (ns.map D.int) = some ns
  | [] => rfl
  | n :: r => by simp [intsOf, intsOf_map r]
theorem intsOf_eq : ∀ {ds : List D} {ns : List Int}, intsOf ds = some ns → ds = ns.map D.int
  | [], _, e => by simp [intsOf] at e; subst e; rfl
  | d :: r, ns, e => by
    cases d with
    | int i =>
      simp only [intsOf] at e
      obtain ⟨ms, h1, rfl⟩ := Option.map_eq_some_iff.mp e
      rw [intsOf_eq h1]
      rfl
    | _ => simp [intsOf] at e
/-- one sorted list of ints -/
theorem sorted_uniq {ns ms : List Int} (h1 : ms.Perm ns) (h2 : ms.Pairwise (· ≤ ·)) : ms = ns.mergeSort leI := by
  have t : ∀ a b c : Int, leI a b = true → leI b c = true → leI a c = true := fun a b c h h' => by
    unfold leI at *
    simp only [decide_eq_true_eq] at *
    omega
  have tot : ∀ a b : Int, (leI a b || leI b a) = true := fun a b => by
    unfold leI
    simp only [Bool.or_eq_true, decide_eq_true_eq]
    omega
  have p2 := List.pairwise_mergeSort t tot ns
  have p3 : (ns.mergeSort leI).Pairwise (· ≤ ·) := p2.imp fun h => by
    unfold leI at h
    simpa using h
  exact List.Perm.eq_of_pairwise (fun a b _ _ h h' => Int.le_antisymm h h') h2 p3 (h1.trans (List.mergeSort_perm ns leI).symm)
theorem minL_eq {ns : List Int} {i m : Int} (e : minL ns = some i) (h1 : m ∈ ns) (h2 : ∀ y ∈ ns, m ≤ y) : m = i := by
  have key : ∀ (l : List Int) (a : Int), (l.foldl (fun a b => if b < a then b else a) a) ∈ a :: l ∧ ∀ y ∈ a :: l, l.foldl (fun a b => if b < a then b else a) a ≤ y := by
    intro l
    induction l with
    | nil => intro a; simp
    | cons b r ih =>
      intro a
      rw [List.foldl_cons]
      obtain ⟨i1, i2⟩ := ih (if b < a then b else a)
      refine ⟨?_, fun y hy => ?_⟩
      · rcases List.mem_cons.mp i1 with q | q
        · rw [q]; split <;> simp
        · exact List.mem_cons_of_mem _ (List.mem_cons_of_mem _ q)
      · have q := i2 (if b < a then b else a) (List.mem_cons_self ..)
        rcases List.mem_cons.mp hy with rfl | hy
        · refine Int.le_trans q ?_
          split <;> omega
        · rcases List.mem_cons.mp hy with rfl | hy
          · refine Int.le_trans q ?_
            split <;> omega
          · exact i2 y (List.mem_cons_of_mem _ hy)
  cases ns with
  | nil => cases e
  | cons a r =>
    have e : some (r.foldl (fun a b => if b < a then b else a) a) = some i := e
    cases e
    obtain ⟨k1, k2⟩ := key r a
    have := h2 _ k1
    have := k2 _ h1
    omega
theorem maxL_eq {ns : List Int} {i m : Int} (e : maxL ns = some i) (h1 : m ∈ ns) (h2 : ∀ y ∈ ns, y ≤ m) : m = i := by
  have key : ∀ (l : List Int) (a : Int), (l.foldl (fun a b => if b > a then b else a) a) ∈ a :: l ∧ ∀ y ∈ a :: l, y ≤ l.foldl (fun a b => if b > a then b else a) a := by
    intro l
    induction l with
    | nil => intro a; simp
    | cons b r ih =>
      intro a
      rw [List.foldl_cons]
      obtain ⟨i1, i2⟩ := ih (if b > a then b else a)
      refine ⟨?_, fun y hy => ?_⟩
      · rcases List.mem_cons.mp i1 with q | q
        · rw [q]; split <;> simp
        · exact List.mem_cons_of_mem _ (List.mem_cons_of_mem _ q)
      · have q := i2 (if b > a then b else a) (List.mem_cons_self ..)
        rcases List.mem_cons.mp hy with rfl | hy
        · refine Int.le_trans ?_ q
          split <;> omega
        · rcases List.mem_cons.mp hy with rfl | hy
          · refine Int.le_trans ?_ q
            split <;> omega
          · exact i2 y (List.mem_cons_of_mem _ hy)
  cases ns with
  | nil => cases e
  | cons a r =>
    have e : some (r.foldl (fun a b => if b > a then b else a) a) = some i := e
    cases e
    obtain ⟨k1, k2⟩ := key r a
    have := h2 _ k1
    have := k2 _ h1
    omega
theorem minL_ne {ns : List Int} {i : Int} (e : minL ns = some i) : 0 < ns.length := by cases ns with | nil => cases e | cons a r => simp
theorem maxL_ne {ns : List Int} {i : Int} (e : maxL ns = some i) : 0 < ns.length := by cases ns with | nil => cases e | cons a r => simp
/-- sequences and dicts -/
theorem items_ok {v : V} {d : D} {ds : List D} (r : Rl K M W v d) (S : StR K M W H g s) (e : itemsOf d s = some ds) :
    (∃ a vs, v = .ref a ∧ (SqL K H a vs ∨ SqT K H a vs) ∧ RlL K M W vs ds) ∨ (∃ a t es, v = .ref a ∧ dctOf d s = some (t, es) ∧ ds = es.map (·.1.d)) ∨ ∃ cs, d = .str cs ∧ v = .str (cOf cs) ∧ ds = cs.map fun c => .str [c] := by
  unfold itemsOf at e
  split at e
  · rename_i t kvs hk
    obtain ⟨a, rfl, _⟩ := dct_ok r S hk
    cases e
    exact .inr (.inl ⟨a, t, kvs, rfl, hk, rfl⟩)
  · split at e
    · rename_i es hs
      cases e
      exact .inl (seq_ok r S hs)
    · cases r with
      | str => cases e; exact .inr (.inr ⟨_, rfl, rfl, rfl⟩)
      | _ => cases e
theorem rl_keys : ∀ {kvs : List (Key × V)} {es : List (GKey × D)}, RlK K M W kvs es → RlL K M W (kvs.map fun kv => kV kv.1) (es.map (·.1.d))
  | _, _, .nil => .nil
  | _, _, .cons (k := k) a b => by
    refine .cons ?_ (rl_keys b)
    show Rl K M W (kV k.k) k.d
    cases k with
    | i n => exact .int
    | s cs => exact .str
theorem keys_ints : ∀ {kvs : List (Key × V)} {es : List (GKey × D)} {ns : List Int}, RlK K M W kvs es → intsOf (es.map (·.1.d)) = some ns → kvs.map (·.1) = ns.map Sum.inl
  | _, _, _, .nil, e => by simp [intsOf] at e; subst e; rfl
  | _, _, _, .cons (k := k) a b, e => by
    cases k with
    | i n =>
      have e : (intsOf (_)).map (n :: ·) = some _ := e
      obtain ⟨ms, h1, rfl⟩ := Option.map_eq_some_iff.mp e
      rw [List.map_cons, List.map_cons, keys_ints b h1]
      rfl
    | s cs => cases e
end
section
variable {X : Cx} {M : Nm} {g : Nat → Prop}
theorem call_lenR : CallR X (.builtin "len") (fun xs H Q => ∃ a kvs, xs = [V.ref a] ∧ Rd H a (.dK kvs) ∧ Q (.int kvs.length) H) := by
  intro pins s σ H xs us Q I r h
  obtain ⟨a, kvs, rfl, ha, q⟩ := h
  obtain ⟨u, rfl, ru⟩ := vals1 r
  obtain rfl : u = Value.ref a := ru
  exact d_len I ha fun t s' I' => ⟨.int _, H, I', ⟨_, rfl⟩, q⟩
theorem b_len {m : Bool} : CallR X (.builtin "len") (rN X.K M g (bltE .len m)) := by
  refine callImp (callOr call_len call_lenR) fun vs H Q ⟨W, s, ds, E, S, r, P⟩ => ?_
  match ds, r, P with
  | [], r, P => exact P.elim
  | _ :: _ :: _, r, P => exact P.elim
  | [d], r, P =>
    obtain ⟨v, rfl, rv⟩ := one_rl r
    simp only [bltE] at P
    split at P
    · rename_i kvs hk
      obtain ⟨a, rfl, ⟨_, kv, h1, h2⟩ | ⟨z, _⟩⟩ := dct_ok rv S hk
      · refine .inr ⟨a, kv, rfl, h1.rd, ?_⟩
        rw [h2.length]
        exact P.int S
      · cases z
    · exact P.elim
    · split at P
      · rename_i ds hs
        obtain ⟨a, vs, rfl, hq, rl⟩ := seq_ok rv S hs
        refine .inl ⟨_, ds.length, rfl, ?_, P.int S⟩
        rw [← rl.length]
        rcases hq with hq | hq
        · exact .inl ⟨_, hq, rfl⟩
        · exact .inr ⟨_, hq, rfl⟩
      · cases rv with
        | @str cs0 =>
          dsimp only at P
          split at P
          · rename_i hl
            refine .inl ⟨_, cs0.length, rfl, ⟨by rw [cOf_len, ← lenLine_eq]; exact hl, (cOf_len _).symm⟩, P.int S⟩
          · exact P.elim
        | _ => exact P.elim
theorem b_abs {m : Bool} : CallR X (.builtin "abs") (rN X.K M g (bltE .abs m)) := by
  refine callImp call_abs fun vs H Q ⟨W, s, ds, E, S, r, P⟩ => ?_
  match ds, r, P with
  | [], r, P => exact P.elim
  | _ :: _ :: _, r, P => simp only [bltE] at P; exact P.elim
  | [d], r, P =>
    obtain ⟨v, rfl, rv⟩ := one_rl r
    cases rv with
    | int => exact ⟨_, rfl, P.int S⟩
    | _ => simp only [bltE] at P; exact P.elim
theorem b_list {m : Bool} (hc : X.calm = true) : CallR X (.type "list") (rN X.K M g (bltE .list m)) := by
  refine callImp (callOr call_list_of (call_listD hc)) fun vs H Q ⟨W, s, ds, E, S, r, P⟩ => ?_
  match ds, r, P with
  | [], r, P => exact P.elim
  | _ :: _ :: _, r, P => exact P.elim
  | [d], r, P =>
    obtain ⟨v, rfl, rv⟩ := one_rl r
    have P : Post X.K M g (Rl X.K M) E W Q (match seqOf d s with
      | some ds => mkLst m ds s
      | none => match dctOf d s with
        | some (false, kvs) => mkLst m (kvs.map (·.1.d)) s
        | _ => .no) := P
    split at P
    · rename_i ds hs
      obtain ⟨a, vs, rfl, hq, rl⟩ := seq_ok rv S hs
      unfold mkLst at P
      split at P
      · exact .inl ⟨a, vs, rfl, hq, fun l hl => P.mk S (.lst rl) hl⟩
      · exact P.elim
    · split at P
      · rename_i kvs hk
        obtain ⟨a, rfl, ⟨_, kv, h1, h2⟩ | ⟨z, _⟩⟩ := dct_ok rv S hk
        · unfold mkLst at P
          split at P
          · exact .inr ⟨a, kv, rfl, h1.rd, fun l hl => P.mk S (.lst (rl_keys h2)) hl⟩
          · exact P.elim
        · cases z
      · exact P.elim
theorem b_tuple {m : Bool} : CallR X (.type "tuple") (rN X.K M g (bltE .tuple m)) := by
  refine callImp call_tuple_of fun vs H Q ⟨W, s, ds, E, S, r, P⟩ => ?_
  match ds, r, P with
  | [], r, P => exact P.elim
  | _ :: _ :: _, r, P => exact P.elim
  | [d], r, P =>
    obtain ⟨v, rfl, rv⟩ := one_rl r
    simp only [bltE] at P
    cases rv with
    | tup h q => exact ⟨_, _, rfl, .inr ⟨SqT.of (rdx_tup (S.fz _ _ h)), P.ok S (.tup h q)⟩⟩
    | klst h q =>
      dsimp only at P
      split at P
      · rename_i ds hs
        obtain ⟨a, vs, e1, hq, rl⟩ := lst_ok (.klst h q) S hs
        exact ⟨a, vs, by rw [e1], .inl ⟨hq, fun l hl => P.tup S rl hl⟩⟩
      · exact P.elim
    | frz h q =>
      dsimp only at P
      split at P
      · rename_i ds hs
        obtain ⟨a, vs, e1, hq, rl⟩ := lst_ok (.frz h q) S hs
        exact ⟨a, vs, by rw [e1], .inl ⟨hq, fun l hl => P.tup S rl hl⟩⟩
      · exact P.elim
    | loc h =>
      dsimp only at P
      split at P
      · rename_i ds hs
        obtain ⟨a, vs, e1, hq, rl⟩ := lst_ok (.loc h) S hs
        exact ⟨a, vs, by rw [e1], .inl ⟨hq, fun l hl => P.tup S rl hl⟩⟩
      · exact P.elim
    | _ => exact P.elim
theorem b_dict {m : Bool} : CallR X (.type "dict") (rN X.K M g (bltE .dict m)) := by
  refine callImp call_dictD fun vs H Q ⟨W, s, ds, E, S, r, P⟩ => ?_
  match ds, r, P with
  | [], r, P => exact P.elim
  | _ :: _ :: _, r, P => exact P.elim
  | [d], r, P =>
    obtain ⟨v, rfl, rv⟩ := one_rl r
    have P : Post X.K M g (Rl X.K M) E W Q (match dctOf d s with
      | some (false, kvs) => mkOb m (.dct false kvs) s
      | _ => .no) := P
    split at P
    · rename_i kvs hk
      obtain ⟨a, rfl, ⟨_, kv, h1, h2⟩ | ⟨z, _⟩⟩ := dct_ok rv S hk
      · exact ⟨a, kv, rfl, h1.rd, fun l hl => P.mk S (.dk h2) hl⟩
      · cases z
    · exact P.elim
theorem b_sum {m : Bool} (hc : X.calm = true) : CallR X (.builtin "sum") (rN X.K M g (bltE .sum m)) := by
  refine callImp (cr_sum hc) fun vs H Q ⟨W, s, ds, E, S, r, P⟩ => ?_
  match ds, r, P with
  | [], r, P => exact P.elim
  | _ :: _ :: _, r, P => exact P.elim
  | [d], r, P =>
    obtain ⟨v, rfl, rv⟩ := one_rl r
    simp only [bltE] at P
    split at P
    · rename_i ds hs
      split at P
      · rename_i ns hn
        obtain ⟨a, vs, rfl, hq, rl⟩ := lst_ok rv S hs
        rw [ints_rl rl hn] at hq
        exact ⟨a, ns, rfl, hq, P.int S⟩
      · exact P.elim
    · exact P.elim
theorem b_any {m : Bool} (hc : X.calm = true) : CallR X (.builtin "any") (rN X.K M g (bltE .any m)) := by
  refine callImp (cr_any hc) fun vs H Q ⟨W, s, ds, E, S, r, P⟩ => ?_
  match ds, r, P with
  | [], r, P => exact P.elim
  | _ :: _ :: _, r, P => exact P.elim
  | [d], r, P =>
    obtain ⟨v, rfl, rv⟩ := one_rl r
    simp only [bltE] at P
    split at P
    · rename_i ds hs
      split at P
      · rename_i ns hn
        obtain ⟨a, vs, rfl, hq, rl⟩ := lst_ok rv S hs
        rw [bools_rl rl hn] at hq
        exact ⟨a, ns, rfl, hq, P.bl S⟩
      · exact P.elim
    · exact P.elim
theorem b_all {m : Bool} (hc : X.calm = true) : CallR X (.builtin "all") (rN X.K M g (bltE .all m)) := by
  refine callImp (cr_all hc) fun vs H Q ⟨W, s, ds, E, S, r, P⟩ => ?_
  match ds, r, P with
  | [], r, P => exact P.elim
  | _ :: _ :: _, r, P => exact P.elim
  | [d], r, P =>
    obtain ⟨v, rfl, rv⟩ := one_rl r
    simp only [bltE] at P
    split at P
    · rename_i ds hs
      split at P
      · rename_i ns hn
        obtain ⟨a, vs, rfl, hq, rl⟩ := lst_ok rv S hs
        rw [bools_rl rl hn] at hq
        exact ⟨a, ns, rfl, hq, P.bl S⟩
      · exact P.elim
    · exact P.elim
theorem b_min {m : Bool} (hc : X.calm = true) : CallR X (.builtin "min") (rN X.K M g (bltE .min m)) := by
  refine callImp (callOr (call_min2 hc) (cr_min hc)) fun vs H Q ⟨W, s, ds, E, S, r, P⟩ => ?_
  match ds, r, P with
  | [], r, P => exact P.elim
  | _ :: _ :: _ :: _, r, P => simp only [bltE] at P; exact P.elim
  | [d, e], r, P =>
    obtain ⟨v, u, rfl, rv, ru⟩ := two_rl r
    cases rv with
    | int => cases ru with
      | int => exact .inl ⟨_, _, rfl, P.int S⟩
      | _ => simp only [bltE] at P; exact P.elim
    | _ => simp only [bltE] at P; exact P.elim
  | [d], r, P =>
    obtain ⟨v, rfl, rv⟩ := one_rl r
    simp only [bltE] at P
    split at P
    · rename_i ns hn
      obtain ⟨ds, hs, hn⟩ := Option.bind_eq_some_iff.mp hn
      split at P
      · rename_i i hi
        obtain ⟨a, vs, rfl, hq, rl⟩ := lst_ok rv S hs
        rw [ints_rl rl hn] at hq
        exact .inr ⟨a, ns, rfl, hq, minL_ne hi, fun m h1 h2 => by rw [minL_eq hi h1 h2]; exact P.int S⟩
      · exact P.elim
    · exact P.elim
theorem b_max {m : Bool} (hc : X.calm = true) : CallR X (.builtin "max") (rN X.K M g (bltE .max m)) := by
  refine callImp (callOr (call_max2 hc) (cr_max hc)) fun vs H Q ⟨W, s, ds, E, S, r, P⟩ => ?_
  match ds, r, P with
  | [], r, P => exact P.elim
  | _ :: _ :: _ :: _, r, P => simp only [bltE] at P; exact P.elim
  | [d, e], r, P =>
    obtain ⟨v, u, rfl, rv, ru⟩ := two_rl r
    cases rv with
    | int => cases ru with
      | int => exact .inl ⟨_, _, rfl, P.int S⟩
      | _ => simp only [bltE] at P; exact P.elim
    | _ => simp only [bltE] at P; exact P.elim
  | [d], r, P =>
    obtain ⟨v, rfl, rv⟩ := one_rl r
    simp only [bltE] at P
    split at P
    · rename_i ns hn
      obtain ⟨ds, hs, hn⟩ := Option.bind_eq_some_iff.mp hn
      split at P
      · rename_i i hi
        obtain ⟨a, vs, rfl, hq, rl⟩ := lst_ok rv S hs
        rw [ints_rl rl hn] at hq
        exact .inr ⟨a, ns, rfl, hq, maxL_ne hi, fun m h1 h2 => by rw [maxL_eq hi h1 h2]; exact P.int S⟩
      · exact P.elim
    · exact P.elim
end
end Fn

set_option Elab.async false
set_option linter.all false
set_option maxRecDepth 100000
set_option maxHeartbeats 2000000
namespace Fn
open PySem L2 PySem.Spec PyProof.Rows
abbrev FE := Env → Sto → R D
abbrev wE (E : WX) (σ : L2.St) : WS := fun c d H' => E c d σ H'
section
variable {K : PySem.W.Frag} {M : Nm} {g : Nat → Prop} {E : WX} {σ : L2.St} {H : Hp} {Q : VK} {f fa fb fc : FE}
theorem tfB {h : D → Env → Sto → R D} (q : TF K M g (fun env s => (f env s).bind fun x s => h x env s) E σ H Q) :
    TF K M g f E σ H (fun x H1 => ∃ W env s d, EnvR K M W σ env ∧ StR K M W H1 g s ∧ Rl K M W x d ∧ Post K M g (Rl K M) (wE E σ) W Q (h d env s)) := by
  obtain ⟨W, env, s, e, S, P⟩ := q
  exact ⟨W, env, s, e, S, P.bind.imp fun x H1 ⟨d, s1, W1, L, S1, r1, P1⟩ => ⟨W1, env, s1, d, e.mono L, S1, r1, P1⟩⟩
theorem tfOp {h : D → D → Sto → R D} (q : TF K M g (fun env s => (fa env s).bind fun x s => (fb env s).bind fun y s => h x y s) E σ H Q) : tOp (r2 K M g h) (TF K M g fa E) (TF K M g fb E) σ H Q := by
  obtain ⟨W, env, s, e, S, P⟩ := q
  exact ⟨W, env, s, e, S, P.bind.imp fun x H1 ⟨d1, s1, W1, L, S1, r1, P1⟩ => ⟨W1, env, s1, e.mono L, S1, P1.bind.imp fun y H2 ⟨d2, s2, W2, L2, S2, r2, P2⟩ => ⟨W2, s2, d1, d2, _, S2, r1.mono L2, r2, P2⟩⟩⟩
/-- a test -/
def tst (f : FE) : Env → Sto → R Bool := fun env s => (f env s).bind fun d s => at? (truth d s) s
/-- .. that goes on -/
def fIte (fa fb fc : FE) : FE := fun env s => (fa env s).bind fun x s => match truth x s with
  | some true => fb env s
  | some false => fc env s
  | none => .no
def hAnd (fb : FE) : D → Env → Sto → R D := fun x env s => match truth x s with
  | some true => fb env s
  | some false => .ok x s
  | none => .no
def fAnd (fa fb : FE) : FE := fun env s => (fa env s).bind fun x s => hAnd fb x env s
def hOr (fb : FE) : D → Env → Sto → R D := fun x env s => match truth x s with
  | some true => .ok x s
  | some false => fb env s
  | none => .no
def fOr (fa fb : FE) : FE := fun env s => (fa env s).bind fun x s => hOr fb x env s
theorem ttIte {β γ : Type} {rel : Wd → β → γ → Prop} {Q : β → Hp → Prop} {ft ff : Env → Sto → R γ} {env : Env} {s : Sto} {W : Wd} (e : EnvR K M W σ env) (S : StR K M W H g s)
    (P : Post K M g rel (wE E σ) W Q ((fa env s).bind fun x s => match truth x s with
      | some true => ft env s
      | some false => ff env s
      | none => .no)) : TT' K M g (tst fa) E σ H (fun c H1 => ∃ W env s, EnvR K M W σ env ∧ StR K M W H1 g s ∧ Post K M g rel (wE E σ) W Q (if c = true then ft env s else ff env s)) := by
  refine ⟨W, env, s, e, S, ?_⟩
  unfold tst
  cases hf : fa env s with
  | no => rw [hf] at P; exact P
  | ex x s1 => rw [hf] at P; exact P
  | ok x s1 =>
    rw [hf] at P
    simp only [R.bind_ok] at P ⊢
    cases ht : truth x s1 with
    | none => rw [ht] at P; exact P.elim
    | some b =>
      rw [ht] at P
      intro W' H' c L S' (r : c = b)
      subst r
      refine ⟨W', env, s1, e.mono L, S', ?_⟩
      cases c with
      | true => exact Post.mono P L
      | false => exact Post.mono P L
end
section
variable {X : Cx} {M : Nm} {g : Nat → Prop} {E : WX} {f fa fb fc : FE} {e e1 a b c : Expr} {pos : Pos} {rest : List Expr}
theorem s_op {op : Operator} {h : D → D → Sto → R D} (ho : OpR X (binaryOp op) (r2 X.K M g h)) (ha : PE X a (TF X.K M g fa E)) (hb : PE X b (TF X.K M g fb E)) :
    PE X (.BinOp a op b pos) (TF X.K M g (fun env s => (fa env s).bind fun x s => (fb env s).bind fun y s => h x y s) E) := PE.imp (pe_op ho ha hb) fun σ H Q q => tfOp q
theorem nomark {b : Expr} (h : (match b with | .Set _ _ _ => true | _ => false) = false) (op : CmpOp) : behindInMarks op b = false := by cases b <;> first | rfl | cases h
theorem s_cmp {op : CmpOp} {h : D → D → Sto → R D} (ho : OpR X (compareOp op) (r2 X.K M g h)) (ha : PE X a (TF X.K M g fa E)) (hb : PE X b (TF X.K M g fb E)) (hm : behindInMarks op b = false) :
    PE X (.Compare a [op] [b] pos) (TF X.K M g (fun env s => (fa env s).bind fun x s => (fb env s).bind fun y s => h x y s) E) := PE.imp (pe_cmpR ho ha hb hm) fun σ H Q q => tfOp q
theorem tstB {f : FE} {o : D → D → Sto → Option Bool} {K : PySem.W.Frag} {σ : L2.St} {H : Hp} {Q : Bool → Hp → Prop} (q : TT' K M g (tst fun env s => (fa env s).bind fun x s => (fb env s).bind fun y s => at? ((o x y s).map .bl) s) E σ H Q) :
    TF K M g (fun env s => (fa env s).bind fun x s => (fb env s).bind fun y s => at? ((o x y s).map .bl) s) E σ H (fun x H' => ∃ k, x = .bl k ∧ Q k H') := by
  obtain ⟨W, env, s, e, S, P⟩ := q
  refine ⟨W, env, s, e, S, ?_⟩
  unfold tst at P
  try dsimp only at P ⊢
  cases h1 : fa env s with
  | no => rw [h1] at P; exact P.elim
  | ex x s1 => rw [h1] at P; exact P
  | ok x s1 =>
    rw [h1] at P
    simp only [R.bind_ok] at P ⊢
    cases h2 : fb env s1 with
    | no => rw [h2] at P; exact P.elim
    | ex x s1 => rw [h2] at P; exact P
    | ok y s2 =>
      rw [h2] at P
      simp only [R.bind_ok] at P ⊢
      cases ho : o x y s2 with
      | none => rw [ho] at P; exact P.elim
      | some k =>
        rw [ho] at P
        intro W' H' v L S' r
        cases r
        exact ⟨k, rfl, P W' H' k L S' rfl⟩
theorem st_cmp {op : CmpOp} {o : D → D → Sto → Option Bool} (ho : OpR X (compareOp op) (r2 X.K M g fun x y s => at? ((o x y s).map .bl) s)) (ha : PE X a (TF X.K M g fa E)) (hb : PE X b (TF X.K M g fb E)) (hm : behindInMarks op b = false) :
    PT X (.Compare a [op] [b] pos) (TT' X.K M g (tst fun env s => (fa env s).bind fun x s => (fb env s).bind fun y s => at? ((o x y s).map .bl) s) E) :=
  PT.imp (pt_cmpR ho ha hb hm) fun σ H Q q => tfOp (tstB (f := fa) q)

/-- tests of any value -/
theorem st_any (he : PE X e (TF X.K M g f E)) (hi : ∀ whole, isTrue e X.env whole = (do let v ← whole; standAt e.pos; holding [v] (truthy v))) : PT X e (TT' X.K M g (tst f) E) := by
  refine ⟨fun pins s σ H Q I h => ?_⟩
  obtain ⟨W, env, st, en, S, P⟩ := h
  refine isTrue_plain (thn (he.run pins s σ H _ I ⟨W, env, st, en, S, P.bind⟩) fun v s1 ⟨x, H1, I1, r1, d, st1, W1, L, S1, rl, P1⟩ => ?_) (hi _)
  obtain ⟨k, hk, P2⟩ := Post.at P1
  exact tru_okA pins s1 σ H1 x v Q I1 r1 ⟨k, truth_ok S1 rl hk, P2.ok S1 rfl⟩
theorem st_one (hb : PT X b (TT' X.K M g (tst fb) E)) (op : BoolOp) : PW X (.BoolOp op [b] pos) (TT' X.K M g (tst fb) E) := by
  cases op
  · exact pw_and1 hb
  · exact pw_or1 hb
theorem s_and (ha : PE X a (TF X.K M g fa E)) (hb : PE X (.BoolOp .And (b :: rest) pos) (TF X.K M g fb E)) : PE X (.BoolOp .And (a :: b :: rest) pos) (TF X.K M g (fAnd fa fb) E) := by
  refine ⟨fun pins s σ H Q I h => ?_⟩
  refine BoolOp_and (thn (ha.run pins s σ H _ I (tfB (f := fa) (h := hAnd fb) h)) fun v s1 ⟨x, H1, I1, r1, W, env, st, d, en, S, rl, P⟩ => ?_)
  unfold hAnd at P
  cases ht : truth d st with
  | none => rw [ht] at P; exact P.elim
  | some k =>
    rw [ht] at P
    refine thn (tru_okA pins s1 σ H1 x v (fun c H2 => c = k ∧ H2 = H1) I1 r1 ⟨k, truth_ok S rl ht, rfl, rfl⟩) fun c s2 hc => ?_
    obtain ⟨H2, I2, e1, e2⟩ := hc
    rw [e2] at I2
    subst e1
    cases c with
    | true => exact hb.run pins s2 σ H1 Q I2 ⟨W, env, st, en, S, P⟩
    | false => exact ⟨x, H1, I2, r1, Post.ok P S rl⟩
theorem s_or (ha : PE X a (TF X.K M g fa E)) (hb : PE X (.BoolOp .Or (b :: rest) pos) (TF X.K M g fb E)) : PE X (.BoolOp .Or (a :: b :: rest) pos) (TF X.K M g (fOr fa fb) E) := by
  refine ⟨fun pins s σ H Q I h => ?_⟩
  refine BoolOp_or (thn (ha.run pins s σ H _ I (tfB (f := fa) (h := hOr fb) h)) fun v s1 ⟨x, H1, I1, r1, W, env, st, d, en, S, rl, P⟩ => ?_)
  unfold hOr at P
  cases ht : truth d st with
  | none => rw [ht] at P; exact P.elim
  | some k =>
    rw [ht] at P
    refine thn (tru_okA pins s1 σ H1 x v (fun c H2 => c = k ∧ H2 = H1) I1 r1 ⟨k, truth_ok S rl ht, rfl, rfl⟩) fun c s2 hc => ?_
    obtain ⟨H2, I2, e1, e2⟩ := hc
    rw [e2] at I2
    subst e1
    cases c with
    | false => exact hb.run pins s2 σ H1 Q I2 ⟨W, env, st, en, S, P⟩
    | true => exact ⟨x, H1, I2, r1, Post.ok P S rl⟩
def hNot : D → Env → Sto → R D := fun x _ s => at? ((truth x s).map fun b => .bl (!b)) s
def fNot (fa : FE) : FE := fun env s => (fa env s).bind fun x s => hNot x env s
theorem s_not (ha : PE X a (TF X.K M g fa E)) : PE X (.UnaryOp .Not a pos) (TF X.K M g (fNot fa) E) := by
  refine ⟨fun pins s σ H Q I h => ?_⟩
  refine UnaryOp_ (thn (ha.run pins s σ H _ I (tfB (f := fa) (h := hNot) h)) fun v s1 ⟨x, H1, I1, r1, W, env, st, d, en, S, rl, P⟩ => ?_)
  unfold hNot at P
  cases ht : truth d st with
  | none => rw [ht] at P; exact P.elim
  | some k =>
    rw [ht] at P
    exact not_of (thn (tru_okA pins s1 σ H1 x v (fun c H2 => Q (.bl (!c)) H2) I1 r1 ⟨k, truth_ok S rl ht, Post.bl P S⟩) fun c s2 ⟨H2, I2, q2⟩ => ⟨.bl (!c), H2, I2, rfl, q2⟩)
theorem st_not (ha : PT X a (TT' X.K M g (tst fa) E)) : PT X (.UnaryOp .Not a pos) (TT' X.K M g (tst (fNot fa)) E) := by
  refine PT.imp (pt_not ha) fun σ H Q ⟨W, env, s, e, S, P⟩ => ⟨W, env, s, e, S, ?_⟩
  unfold tst fNot hNot at P
  unfold tst
  try dsimp only at P ⊢
  cases h1 : fa env s with
  | no => rw [h1] at P; exact P.elim
  | ex x s1 => rw [h1] at P; exact P
  | ok x s1 =>
    rw [h1] at P
    simp only [R.bind_ok] at P ⊢
    cases ho : truth x s1 with
    | none => rw [ho] at P; exact P.elim
    | some k =>
      rw [ho] at P
      intro W' H' c L S' (r : c = k)
      subst r
      exact P W' H' (!c) L S' rfl
theorem st_and (ha : PT X a (TT' X.K M g (tst fa) E)) (hb : PW X (.BoolOp .And (b :: rest) pos) (TT' X.K M g (tst fb) E)) : PW X (.BoolOp .And (a :: b :: rest) pos) (TT' X.K M g (tst (fAnd fa fb)) E) := by
  refine ⟨fun wh pins s σ H Q I h => (pw_and ha hb).run wh pins s σ H Q I ?_⟩
  obtain ⟨W, env, s, e, S, P⟩ := h
  refine ⟨W, env, s, e, S, ?_⟩
  unfold tst fAnd hAnd at P
  unfold tst
  try dsimp only at P ⊢
  cases h1 : fa env s with
  | no => rw [h1] at P; exact P.elim
  | ex x s1 => rw [h1] at P; exact P
  | ok x s1 =>
    rw [h1] at P
    simp only [R.bind_ok] at P ⊢
    cases ho : truth x s1 with
    | none => rw [ho] at P; exact P.elim
    | some k =>
      rw [ho] at P
      intro W' H' c L S' (r : c = k)
      subst r
      cases c with
      | true => exact ⟨W', env, s1, e.mono L, S', Post.mono P L⟩
      | false =>
        simp only [R.bind_ok, ho] at P
        exact P W' H' false L S' rfl
theorem st_or (ha : PT X a (TT' X.K M g (tst fa) E)) (hb : PW X (.BoolOp .Or (b :: rest) pos) (TT' X.K M g (tst fb) E)) : PW X (.BoolOp .Or (a :: b :: rest) pos) (TT' X.K M g (tst (fOr fa fb)) E) := by
  refine ⟨fun wh pins s σ H Q I h => (pw_or ha hb).run wh pins s σ H Q I ?_⟩
  obtain ⟨W, env, s, e, S, P⟩ := h
  refine ⟨W, env, s, e, S, ?_⟩
  unfold tst fOr hOr at P
  unfold tst
  try dsimp only at P ⊢
  cases h1 : fa env s with
  | no => rw [h1] at P; exact P.elim
  | ex x s1 => rw [h1] at P; exact P
  | ok x s1 =>
    rw [h1] at P
    simp only [R.bind_ok] at P ⊢
    cases ho : truth x s1 with
    | none => rw [ho] at P; exact P.elim
    | some k =>
      rw [ho] at P
      intro W' H' c L S' (r : c = k)
      subst r
      cases c with
      | false => exact ⟨W', env, s1, e.mono L, S', Post.mono P L⟩
      | true =>
        simp only [R.bind_ok, ho] at P
        exact P W' H' true L S' rfl
theorem s_ite (ha : PT X c (TT' X.K M g (tst fa) E)) (hb : PE X a (TF X.K M g fb E)) (hc : PE X b (TF X.K M g fc E)) : PE X (.IfExp c a b pos) (TF X.K M g (fIte fa fb fc) E) := by
  refine PE.imp (pe_ifExp ha hb hc) fun σ H Q ⟨W, env, s, e, S, P⟩ => ?_
  obtain ⟨W1, env1, s1, e1, S1, P1⟩ := ttIte (fa := fa) (ft := fb) (ff := fc) e S P
  refine ⟨W1, env1, s1, e1, S1, P1.imp fun k H1 ⟨W2, env2, s2, e2, S2, P2⟩ => ?_⟩
  cases k with
  | true => exact ⟨W2, env2, s2, e2, S2, P2⟩
  | false => exact ⟨W2, env2, s2, e2, S2, P2⟩
theorem st_ite (ha : PT X c (TT' X.K M g (tst fa) E)) (hb : PT X a (TT' X.K M g (tst fb) E)) (hc : PT X b (TT' X.K M g (tst fc) E)) : PT X (.IfExp c a b pos) (TT' X.K M g (tst (fIte fa fb fc)) E) := by
  refine ⟨fun pins s σ H Q I ⟨W, env, st, e, S, P⟩ => ?_⟩
  have P' : Post X.K M g (fun _ (b : Bool) a => b = a) (wE E σ) W Q ((fa env st).bind fun x s => match truth x s with
      | some true => tst fb env s
      | some false => tst fc env s
      | none => .no) := by
    unfold tst fIte at P
    try dsimp only at P ⊢
    cases h1 : fa env st with
    | no => rw [h1] at P; exact P
    | ex x s1 => rw [h1] at P; exact P
    | ok x s1 =>
      rw [h1] at P
      simp only [R.bind_ok] at P ⊢
      cases ho : truth x s1 with
      | none => rw [ho] at P; exact P
      | some k => rw [ho] at P; cases k <;> exact P
  obtain ⟨W1, env1, s1, e1, S1, P1⟩ := ttIte (fa := fa) (ft := tst fb) (ff := tst fc) e S P'
  have q := ha.run pins s σ H _ I ⟨W1, env1, s1, e1, S1, P1⟩
  simp only [PySem.isTrue]
  refine wpAny_bind (thn q fun k s1 ⟨H1, I1, W2, env2, s2, e2, S2, P2⟩ => ?_)
  cases k with
  | true => exact hb.run pins s1 σ H1 Q I1 ⟨W2, env2, s2, e2, S2, P2⟩
  | false => exact hc.run pins s1 σ H1 Q I1 ⟨W2, env2, s2, e2, S2, P2⟩
end
end Fn

set_option Elab.async false
set_option linter.all false
set_option maxRecDepth 100000
set_option maxHeartbeats 2000000
namespace Fn
open PySem L2 PySem.Spec PyProof.Rows
/-- the same world but for the loops' locks -/
structure Sm (W W' : Wd) : Prop where
  fz : W'.fz = W.fz
  bt : W'.bt = W.bt
  n : W'.n = W.n
  fr : W'.fr = W.fr
section
variable {K : PySem.W.Frag} {M : Nm} {W W' W2 W3 : Wd} {H H' : Hp} {g : Nat → Prop} {s : Sto} {σ : L2.St} {env : Env}
theorem Sm.refl : Sm W W := ⟨rfl, rfl, rfl, rfl⟩
theorem Sm.trans (a : Sm W W') (b : Sm W' W2) : Sm W W2 := ⟨b.fz.trans a.fz, b.bt.trans a.bt, b.n.trans a.n, b.fr.trans a.fr⟩
theorem Sm.rl {v : V} {d : D} (h : Sm W W') (r : Rl K M W v d) : Rl K M W' v d := r.wd h.fz h.bt h.n
theorem Sm.rlL {v : List V} {d : List D} (h : Sm W W') (r : RlL K M W v d) : RlL K M W' v d := r.wd h.fz h.bt h.n
theorem Sm.en (h : Sm W W') (e : EnvR K M W σ env) : EnvR K M W' σ env := ⟨e.1, fun i d q => by
  obtain ⟨v, h1, h2⟩ := e.2 i d q
  exact ⟨v, h1, h.rl h2⟩⟩
/-- a later world, whatever is put aside -/
structure Lw (W W' : Wd) : Prop where
  fz : ∀ a o, W.fz a = some o → W'.fz a = some o
  n : W.n ≤ W'.n
  bt : ∀ l, l < W.n → W'.bt l = W.bt l
  lc : W'.lc = W.lc
theorem Le.w (h : Le W W') : Lw W W' := ⟨h.fz, h.n, h.bt, h.lc⟩
theorem Lw.refl : Lw W W := Le.refl.w
theorem Lw.trans (a : Lw W W') (b : Lw W' W2) : Lw W W2 := ⟨fun x o h => b.fz x o (a.fz x o h), Nat.le_trans a.n b.n, fun l h => (b.bt l (Nat.lt_of_lt_of_le h a.n)).trans (a.bt l h), b.lc.trans a.lc⟩
theorem Lw.le (h : Lw W W') : Le W { W' with fr := W.fr } := ⟨h.fz, h.n, h.bt, rfl, h.lc⟩
theorem Lw.rl {v : V} {d : D} (h : Lw W W') (r : Rl K M W v d) : Rl K M W' v d := (r.mono h.le).wd (by rfl) (by rfl) (by rfl)
theorem Lw.rlL {v : List V} {d : List D} (h : Lw W W') (r : RlL K M W v d) : RlL K M W' v d := (r.mono h.le).wd (by rfl) (by rfl) (by rfl)
theorem Lw.en (h : Lw W W') (e : EnvR K M W σ env) : EnvR K M W' σ env := ⟨e.1, fun i d q => by
  obtain ⟨v, h1, h2⟩ := e.2 i d q
  exact ⟨v, h1, h.rl h2⟩⟩
/-- through a loop -/
theorem Le.loop {W4 : Wd} (a : Sm W W2) (b : Le W2 W3) (c : Sm W3 W4) (e : W4.lc = W.lc) : Le W W4 := by
  refine ⟨fun x o h => ?_, ?_, fun l h => ?_, ?_, e⟩
  · rw [c.fz]; exact b.fz x o (by rw [a.fz]; exact h)
  · rw [c.n, ← a.n]; exact b.n
  · rw [c.bt, ← a.bt]; exact b.bt l (by rw [a.n]; exact h)
  · rw [c.fr, b.fr, a.fr]
theorem upd_id {a : Addr} {u : HO} (h : H a = some u) : upd H a u = H := by
  funext b
  by_cases e : b = a
  · subst e; rw [upd_same, h]
  · rw [upd_ne e]
theorem lock1_lk {l : Nat} {o : Ob} (e : s.ob[l]? = some (.lk o)) : lock1 l s = (none, s) := by
  unfold lock1
  rw [e]
theorem lock1_o {l : Nat} {o : Ob} (e : s.ob[l]? = some o) (hn : ∀ o', o ≠ .lk o') : lock1 l s = (some l, { s with ob := s.ob.set l (.lk o) }) := by
  unfold lock1
  rw [e]
  cases o <;> first | rfl | exact absurd rfl (hn _)
/-- the lists at ls are locked, and opened again -/
theorem lock_ok : ∀ (ls : List Nat) {W : Wd} {s : Sto}, StR K M W H g s → (∀ l ∈ ls, ∃ ds, (s.ob[l]?).map Ob.unlk = some (.lst ds)) →
    ∃ W2, Sm W W2 ∧ StR K M W2 H g (lockAll ls s).2 ∧ (∀ l ∈ ls, ∃ vs, W2.lc (W.bt l) = some (.lst vs)) ∧ (∀ a ho, W.lc a = some ho → W2.lc a = some ho) ∧
      ∀ W3 H3 s3, Lw W2 W3 → StR K M W3 H3 g s3 → ∃ W4, Sm W3 W4 ∧ W4.lc = W.lc ∧ StR K M W4 H3 g (unlockAll (lockAll ls s).1 s3)
  | [], W, s, S, _ => ⟨W, .refl, S, fun _ h => by simp at h, fun _ _ h => h, fun W3 H3 s3 L S3 => ⟨W3, .refl, L.lc, S3⟩⟩
  | l :: r, W, s, S, h => by
    obtain ⟨ds, hd⟩ := h l List.mem_cons_self
    cases hq : s.ob[l]? with
    | none => rw [hq] at hd; cases hd
    | some o =>
      rw [hq] at hd
      have hu : o.unlk = .lst ds := Option.some.inj hd
      by_cases hk : ∃ o', o = .lk o'
      · obtain ⟨o', rfl⟩ := hk
        have e1 : lockAll (l :: r) s = lockAll r s := by
          show (match lock1 l s with | (none, s) => lockAll r s | (some l, s) => let p := lockAll r s; (l :: p.1, p.2)) = _
          rw [lock1_lk hq]
        rw [e1]
        obtain ⟨W2, a1, a2, a3, a4, a5⟩ := lock_ok r S fun k hk => h k (List.mem_cons_of_mem _ hk)
        refine ⟨W2, a1, a2, fun k hk => ?_, a4, a5⟩
        rcases List.mem_cons.mp hk with rfl | hk
        · obtain ⟨ho, h1, h2⟩ := S.lkd hq
          have hu : o' = .lst ds := hu
          subst hu
          cases S.ob k _ hq with
          | live e r z => cases r
          | lkL e r z =>
            rw [h2] at e
            cases e
            exact ⟨_, a4 _ _ h1⟩
          | lkD e i r z =>
            cases r
            cases i
        · exact a3 k hk
      · have hn : ∀ o', o ≠ .lk o' := fun o' z => hk ⟨o', z⟩
        have ho : o = .lst ds := by
          cases o <;> first | exact hu | exact absurd rfl (hn _)
        subst ho
        have e1 : lockAll (l :: r) s = (l :: (lockAll r { s with ob := s.ob.set l (.lk (.lst ds)) }).1, (lockAll r { s with ob := s.ob.set l (.lk (.lst ds)) }).2) := by
          show (match lock1 l s with | (none, s) => lockAll r s | (some l, s) => let p := lockAll r s; (l :: p.1, p.2)) = _
          rw [lock1_o hq hn]
        rw [e1]
        obtain ⟨vs, hv, rv, hz⟩ : ∃ vs, H (W.bt l) = some (.lst vs) ∧ RlL K M W vs ds ∧ W.fz (W.bt l) = none := by
          cases S.ob l _ hq with
          | live e r z => cases r with | lst r => exact ⟨_, e, r, z⟩
        have hlc : W.lc (W.bt l) = none := by
          cases q : W.lc (W.bt l) with
          | none => rfl
          | some w =>
            rcases (S.lc _ _ q).2.2.2 l (S.lt hq) rfl with z | ⟨o', z⟩
            · rw [hq] at z; cases z
            · exact absurd (Option.some.inj (hq.symm.trans z)) (hn o')
        have S1 := S.locked (u := .lst vs) hq hn hz rfl (by intro z; cases z) ⟨fun _ z => (nomatch z), fun _ z => (nomatch z)⟩ fun W' q => by
          cases q with
          | live e r z =>
            rw [hv] at e
            cases e
            cases r with
            | lst r => exact .lkL upd_same r z
        rw [upd_id hv] at S1
        obtain ⟨W2, a1, a2, a3, a4, a5⟩ := lock_ok r S1 fun k hk => by
          obtain ⟨es, he⟩ := h k (List.mem_cons_of_mem _ hk)
          by_cases z : k = l
          · subst z
            exact ⟨ds, by show ((s.ob.set k _)[k]?).map _ = _; rw [List.getElem?_set_self (ob_lt hq)]; rfl⟩
          · exact ⟨es, by show ((s.ob.set l _)[k]?).map _ = _; rw [List.getElem?_set_ne (Ne.symm z)]; exact he⟩
        have lcl : W2.lc (W.bt l) = some (.lst vs) := a4 _ _ (by show (if W.bt l = W.bt l then _ else _) = _; rw [if_pos rfl])
        refine ⟨W2, ⟨a1.fz, a1.bt, a1.n, a1.fr⟩, a2, fun k hk => ?_, fun a ho q => a4 a ho ?_, fun W3 H3 s3 L S3 => ?_⟩
        · rcases List.mem_cons.mp hk with rfl | hk
          · exact ⟨vs, lcl⟩
          · exact a3 k hk
        · show (if a = W.bt l then _ else W.lc a) = _
          rw [if_neg (fun z => by rw [z, hlc] at q; cases q)]
          exact q
        · obtain ⟨W4, b1, b2, b3⟩ := a5 W3 H3 s3 L S3
          have hbt : W4.bt l = W.bt l := by
            rw [b1.bt, L.bt l (by rw [a1.n]; exact S.lt hq), a1.bt]
            rfl
          have hl4 : l < W4.n := by
            rw [b1.n]
            refine Nat.lt_of_lt_of_le ?_ L.n
            rw [a1.n]; exact S.lt hq
          have c4 : W4.lc (W4.bt l) = some (.lst vs) := by
            rw [hbt, b2]
            show (if W.bt l = W.bt l then _ else _) = _
            rw [if_pos rfl]
          obtain ⟨d1, d2, d3, d4⟩ := b3.lc _ _ c4
          have lcq : (W4.lock (W4.bt l) none).lc = W.lc := by
            funext a
            show (if a = W4.bt l then none else W4.lc a) = W.lc a
            rw [b2, hbt]
            show (if a = W.bt l then none else if a = W.bt l then _ else W.lc a) = W.lc a
            by_cases z : a = W.bt l
            · rw [if_pos z, z, hlc]
            · rw [if_neg z, if_neg z]
          refine ⟨W4.lock (W4.bt l) none, ⟨b1.fz, b1.bt, b1.n, b1.fr⟩, lcq, ?_⟩
          rcases d4 l hl4 rfl with hdead | ⟨o', ho'⟩
          · have e5 : unlockAll (l :: (lockAll r { s with ob := s.ob.set l (.lk (.lst ds)) }).1) s3 = unlockAll (lockAll r { s with ob := s.ob.set l (.lk (.lst ds)) }).1 s3 := by
              show unlock1 l _ = _
              unfold unlock1
              rw [hdead]
            rw [e5]
            exact b3.dropLc fun k v hk => fun z => by
              have : k = l := b3.inj _ _ (b3.lt hk) hl4 z
              rw [this, hdead] at hk
              cases hk
          have S5 : ∃ ds', o' = .lst ds' := by
            cases b3.ob l _ ho' with
            | live e r z => cases r
            | lkL e r z => exact ⟨_, rfl⟩
            | lkD e i r z => rw [d1] at e; cases e
          obtain ⟨ds', rfl⟩ := S5
          have hz4 : W4.fz (W4.bt l) = none := by
            cases b3.ob l _ ho' with
            | live e r z => cases r
            | lkL e r z => exact z
            | lkD e i r z => exact z
          have S6 := b3.unlocked (u := .lst vs) ho' hz4 (fun W' q => by
            cases q with
            | live e r z => cases r
            | lkL e r z =>
              rw [d1] at e
              cases e
              exact .live upd_same (.lst r) z
            | lkD e i r z => rw [d1] at e; cases e) (by intro o z; cases z)
          rw [upd_id d1] at S6
          have e5 : unlockAll (l :: (lockAll r { s with ob := s.ob.set l (.lk (.lst ds)) }).1) s3 = { (unlockAll (lockAll r { s with ob := s.ob.set l (.lk (.lst ds)) }).1 s3) with ob := (unlockAll (lockAll r { s with ob := s.ob.set l (.lk (.lst ds)) }).1 s3).ob.set l (.lst ds') } := by
            show unlock1 l _ = _
            unfold unlock1
            rw [ho']
          rw [e5]
          exact S6
end
/-- dicts that a loop had frozen are free again -/
inductive Unl (X : Cx) : Hp → Hp → Prop
  | refl {H} : Unl X H H
  | step {H d od u H'} : H d = some (.frz od u) → (∀ o' u', X.H_0 d ≠ some (.frz o' u')) → Unl X (upd H d u) H' → Unl X H H'
theorem Inv.unl {X : Cx} {pins : List (Addr × Obj)} {σ : L2.St} {s : Shared} {H H' : Hp} (h : Unl X H H') : Inv X pins σ H s → Inv X pins σ H' s := by
  induction h with
  | refl => exact id
  | step e n _ ih => exact fun I => ih (I.unlock e n)
theorem pe_unl {X : Cx} {e : Expr} {t : TE} (h : PE X e t) : PE X e (fun σ H Q => t σ H fun v H' => ∃ H'', Unl X H' H'' ∧ Q v H'') :=
  ⟨fun pins s σ H Q I q => thn (h.run pins s σ H _ I q) fun v s1 ⟨x, H1, I1, r1, H2, u, q1⟩ => ⟨x, H2, Inv.unl u I1, r1, q1⟩⟩
def unE (X : Cx) (D : Ends) : Ends := ⟨fun σ H => ∃ H2, Unl X H H2 ∧ D.nx σ H2, fun v H => ∃ H2, Unl X H H2 ∧ D.rt v H2, fun σ H => ∃ H2, Unl X H H2 ∧ D.bk σ H2, fun σ H => ∃ H2, Unl X H H2 ∧ D.ct σ H2⟩
theorem ps_unl {X : Cx} {st : Stmt} {t : TS} (h : PS X st t) : PS X st (fun D σ H => t (unE X D) σ H) := by
  refine ⟨fun pins s σ H D I q => thn (h.run pins s σ H _ I q) fun f s1 q => ?_⟩
  cases f with
  | next => obtain ⟨σ', H', I2, H2, u, q⟩ := q; exact ⟨σ', H2, Inv.unl u I2, q⟩
  | brk => obtain ⟨σ', H', I2, H2, u, q⟩ := q; exact ⟨σ', H2, Inv.unl u I2, q⟩
  | cont => obtain ⟨σ', H', I2, H2, u, q⟩ := q; exact ⟨σ', H2, Inv.unl u I2, q⟩
  | ret v => obtain ⟨x, σ', H', I2, r, H2, u, q⟩ := q; exact ⟨x, σ', H2, Inv.unl u I2, r, q⟩
theorem Unl.trans {X : Cx} {H H' H2 : Hp} (a : Unl X H H') (b : Unl X H' H2) : Unl X H H2 := by
  induction a with
  | refl => exact b
  | step e n _ ih => exact .step e n (ih b)

/-- what a loop over ds holds of its iterator -/
def ItR (X : Cx) (M : Nm) (g : Nat → Prop) (W1 : Wd) (H1 : Hp) (s1 : Sto) (ls : List Nat) (J : It) (ds : List D) : Prop :=
  ∃ W2, Sm W1 W2 ∧ StR X.K M W2 H1 g (lockAll ls s1).2 ∧
    (∀ W3 H3 s3 i, Lw W2 W3 → StR X.K M W3 H3 g s3 → (ds.length ≤ i → J.stop i H3) ∧ ∀ d, ds[i]? = some d → J.go i H3 ∧ ∀ x H', J.yld i H3 x H' → ∃ W4, Le W3 W4 ∧ StR X.K M W4 H' g s3 ∧ Rl X.K M W4 x d) ∧
    ∀ W3 H3 s3, Lw W2 W3 → StR X.K M W3 H3 g s3 → ∃ W4 H4, Sm W3 W4 ∧ W4.lc = W1.lc ∧ Unl X H3 H4 ∧ StR X.K M W4 H4 g (unlockAll (lockAll ls s1).1 s3)
/-- .. of a list, a tuple: nothing is frozen for it -/
def ItRS (X : Cx) (M : Nm) (g : Nat → Prop) (W1 : Wd) (H1 : Hp) (s1 : Sto) (ls : List Nat) (J : It) (ds : List D) : Prop :=
  ∃ W2, Sm W1 W2 ∧ StR X.K M W2 H1 g (lockAll ls s1).2 ∧
    (∀ W3 H3 s3 i, Lw W2 W3 → StR X.K M W3 H3 g s3 → (ds.length ≤ i → J.stop i H3) ∧ ∀ d, ds[i]? = some d → J.go i H3 ∧ ∀ x H', J.yld i H3 x H' → ∃ W4, Le W3 W4 ∧ StR X.K M W4 H' g s3 ∧ Rl X.K M W4 x d) ∧
    ∀ W3 H3 s3, Lw W2 W3 → StR X.K M W3 H3 g s3 → ∃ W4, Sm W3 W4 ∧ W4.lc = W1.lc ∧ StR X.K M W4 H3 g (unlockAll (lockAll ls s1).1 s3)
theorem ItRS.r {X : Cx} {M : Nm} {g : Nat → Prop} {W1 : Wd} {H1 : Hp} {s1 : Sto} {ls : List Nat} {J : It} {ds : List D} (h : ItRS X M g W1 H1 s1 ls J ds) : ItR X M g W1 H1 s1 ls J ds := by
  obtain ⟨W2, a, b, c, d⟩ := h
  refine ⟨W2, a, b, c, fun W3 H3 s3 L S3 => ?_⟩
  obtain ⟨W4, b1, b2, b3⟩ := d W3 H3 s3 L S3
  exact ⟨W4, H3, b1, b2, .refl, b3⟩
abbrev FI := Env → Sto → R (List D × List Nat)
def PostI (X : Cx) (M : Nm) (g : Nat → Prop) (E : WS) (W : Wd) (R' : It → Hp → Prop) : R (List D × List Nat) → Prop
  | .ok p s1 => ∀ W1 H1 J, Le W W1 → ItR X M g W1 H1 s1 p.2 J p.1 → R' J H1
  | .ex x s1 => ∀ W' H' cls dd, Le W W' → StR X.K M W' H' g s1 → XR X.K M W' H' x cls dd → E cls dd H'
  | .no => False
def PostIS (X : Cx) (M : Nm) (g : Nat → Prop) (E : WS) (W : Wd) (R' : It → Hp → Prop) : R (List D × List Nat) → Prop
  | .ok p s1 => ∀ W1 H1 J, Le W W1 → ItRS X M g W1 H1 s1 p.2 J p.1 → R' J H1
  | .ex x s1 => ∀ W' H' cls dd, Le W W' → StR X.K M W' H' g s1 → XR X.K M W' H' x cls dd → E cls dd H'
  | .no => False
def TIS' (X : Cx) (M : Nm) (g : Nat → Prop) (f : FI) (E : WX) : TI := fun σ H R' => ∃ W env s, EnvR X.K M W σ env ∧ StR X.K M W H g s ∧ PostIS X M g (wE E σ) W R' (f env s)
theorem PostI.s {X : Cx} {M : Nm} {g : Nat → Prop} {E : WS} {W : Wd} {R' : It → Hp → Prop} {r : R (List D × List Nat)} (P : PostI X M g E W R' r) : PostIS X M g E W R' r := by
  cases r with
  | ok p s => exact fun W1 H1 J L h => P W1 H1 J L h.r
  | ex x s => exact P
  | no => exact P
def TI' (X : Cx) (M : Nm) (g : Nat → Prop) (f : FI) (E : WX) : TI := fun σ H R' => ∃ W env s, EnvR X.K M W σ env ∧ StR X.K M W H g s ∧ PostI X M g (wE E σ) W R' (f env s)
theorem piImp {X : Cx} {tg e : Expr} {t t1 : TI} (h : PI X tg e t) (i : ∀ σ H R', t1 σ H R' → t σ H R') : PI X tg e t1 := ⟨fun pins s σ H R' I q => h.run pins s σ H R' I (i _ _ _ q)⟩
section
variable {X : Cx} {M : Nm} {g : Nat → Prop} {W : Wd} {H : Hp} {s : Sto}
/-- a list's, a tuple's items while it is locked -/
theorem sq_stay {x : V} {d : D} {ds : List D} (r : Rl X.K M W x d) (S : StR X.K M W H g s) (e : seqOf d s = some ds) :
    ∃ a vs, x = .ref a ∧ RlL X.K M W vs ds ∧ (∀ l ∈ lockOf d, ∃ ds, (s.ob[l]?).map Ob.unlk = some (.lst ds)) ∧
      ((tupD d = false ∧ ∀ W3 H3 s3, (∀ a o, W.fz a = some o → W3.fz a = some o) → StR X.K M W3 H3 g s3 → (∀ l ∈ lockOf d, ∃ vs, W3.lc (W.bt l) = some (.lst vs) ∧ H (W.bt l) = some (.lst vs)) → SqL X.K H3 a vs) ∨
       (tupD d = true ∧ ∀ W3 H3 s3, (∀ a o, W.fz a = some o → W3.fz a = some o) → StR X.K M W3 H3 g s3 → SqT X.K H3 a vs)) := by
  cases r with
  | tup h q =>
    cases e
    exact ⟨_, _, rfl, q, fun l h => by simp [lockOf] at h, .inr ⟨rfl, fun W3 H3 s3 L S3 => SqT.of (rdx_tup (S3.fz _ _ (L _ _ h)))⟩⟩
  | ktup h q =>
    cases e
    exact ⟨_, _, rfl, q, fun l h => by simp [lockOf] at h, .inr ⟨rfl, fun W3 H3 s3 L S3 => h H3⟩⟩
  | klst h q =>
    cases e
    refine ⟨_, _, rfl, q, fun l h => by simp [lockOf] at h, .inl ⟨rfl, fun W3 H3 s3 L S3 _ => ?_⟩⟩
    rcases h with (h | ⟨o, h⟩) | h
    · exact SqL.of (rdx_lst (S3.fz _ _ (L _ _ h)))
    · have h2 := S3.fz _ _ (L _ _ h)
      rcases h2 with h2 | ⟨i, _⟩
      · exact .inl (.inr ⟨o, h2⟩)
      · cases i
    · exact h H3
  | frz h q =>
    rename_i a0 ho0 o0
    cases o0 with
    | lst ds0 =>
      cases e
      cases q with
      | lst q => exact ⟨_, _, rfl, q, fun l h => by simp [lockOf] at h, .inl ⟨rfl, fun W3 H3 s3 L S3 _ => SqL.of (rdx_lst (S3.fz _ _ (L _ _ h)))⟩⟩
    | _ => cases e
  | loc h =>
    rename_i l0
    have e2 : view (D.loc l0) s = some (.lst ds) := by
      revert e
      unfold seqOf
      dsimp only
      split
      · intro e; cases e; assumption
      · intro e; cases e
    obtain ⟨a, vs, e1, h1, h2⟩ := view_lst (.loc h) S e2
    cases e1
    refine ⟨_, vs, rfl, h2, fun l hl => ⟨ds, ?_⟩, .inl ⟨rfl, fun W3 H3 s3 L S3 hk => ?_⟩⟩
    · simp only [lockOf, List.mem_singleton] at hl
      subst hl
      exact e2
    · obtain ⟨vs', h3, h4⟩ := hk l0 (by simp [lockOf])
      rw [h1] at h4
      cases h4
      exact SqL.of (S3.lc _ _ h3).1
  | _ => simp [seqOf, view] at e
/-- the locks hold what stood there -/
theorem lc_same {W2 : Wd} {ls : List Nat} {s2 : Sto} (S : StR X.K M W H g s) (S2 : StR X.K M W2 H g s2) (h : ∀ l ∈ ls, ∃ vs, W2.lc (W.bt l) = some (.lst vs)) : ∀ l ∈ ls, ∃ vs, W2.lc (W.bt l) = some (.lst vs) ∧ H (W.bt l) = some (.lst vs) := fun l hl => by
  obtain ⟨vs, h1⟩ := h l hl
  exact ⟨vs, h1, (S2.lc _ _ h1).1⟩
theorem itr_seq {x : V} {d : D} {ds : List D} (r : Rl X.K M W x d) (S : StR X.K M W H g s) (e : seqOf d s = some ds) :
    ∃ a vs, x = .ref a ∧ ((tupD d = false ∧ SqL X.K H a vs ∧ ItRS X M g W H s (lockOf d) (Itl X.K a) ds) ∨ (tupD d = true ∧ SqT X.K H a vs ∧ ItRS X M g W H s (lockOf d) (Itt X.K a) ds)) := by
  obtain ⟨a, vs, rfl, rl, hl, hs⟩ := sq_stay r S e
  obtain ⟨W2, a1, a2, a3, a4, a5⟩ := lock_ok (lockOf d) S hl
  have a3 := lc_same S a2 a3
  have fz3 : ∀ {W3}, Lw W2 W3 → ∀ a o, W.fz a = some o → W3.fz a = some o := fun L a o h => L.fz a o (by rw [a1.fz]; exact h)
  have un : ∀ W3 H3 s3, Lw W2 W3 → StR X.K M W3 H3 g s3 → ∃ W4, Sm W3 W4 ∧ W4.lc = W.lc ∧ StR X.K M W4 H3 g (unlockAll (lockAll (lockOf d) s).1 s3) := a5
  have at3 : ∀ {W3 i d0}, Lw W2 W3 → ds[i]? = some d0 → ∃ v, vs[i]? = some v ∧ Rl X.K M W3 v d0 := fun L hd => by
    obtain ⟨v, h1, h2⟩ := rl.get hd
    exact ⟨v, h1, L.rl (a1.rl h2)⟩
  rcases hs with ⟨hk, hs⟩ | ⟨hk, hs⟩
  · have h3 : ∀ {W3 H3 s3}, Lw W2 W3 → StR X.K M W3 H3 g s3 → SqL X.K H3 a vs := fun {W3 H3 s3} L S3 => hs W3 H3 s3 (fz3 L) S3 fun l hl => by
      obtain ⟨vs, q1, q2⟩ := a3 l hl
      exact ⟨vs, by rw [L.lc]; exact q1, q2⟩
    refine ⟨a, vs, rfl, .inl ⟨hk, h3 .refl a2, W2, a1, a2, fun W3 H3 s3 i L S3 => ⟨fun hi => ⟨vs, h3 L S3, by rw [rl.length]; exact hi⟩, fun d0 hd => ?_⟩, un⟩⟩
    obtain ⟨v, h1, h2⟩ := at3 L hd
    refine ⟨⟨vs, v, h3 L S3, h1⟩, fun x H' ⟨y1, y2⟩ => ?_⟩
    subst y1
    have := y2 vs (h3 L S3)
    rw [h1] at this
    cases this
    exact ⟨W3, .refl, S3, h2⟩
  · have h3 : ∀ {W3 H3 s3}, Lw W2 W3 → StR X.K M W3 H3 g s3 → SqT X.K H3 a vs := fun {W3 H3 s3} L S3 => hs W3 H3 s3 (fz3 L) S3
    refine ⟨a, vs, rfl, .inr ⟨hk, h3 .refl a2, W2, a1, a2, fun W3 H3 s3 i L S3 => ⟨fun hi => ⟨vs, h3 L S3, by rw [rl.length]; exact hi⟩, fun d0 hd => ?_⟩, un⟩⟩
    obtain ⟨v, h1, h2⟩ := at3 L hd
    refine ⟨⟨vs, v, h3 L S3, h1⟩, fun x H' ⟨y1, y2⟩ => ?_⟩
    subst y1
    have := y2 vs (h3 L S3)
    rw [h1] at this
    cases this
    exact ⟨W3, .refl, S3, h2⟩
theorem piS {tg e : Expr} {f : FI} {E : WX} (h : PI X tg e (TIS' X M g f E)) : PI X tg e (TI' X M g f E) := piImp h fun σ H R' ⟨W, env, s, en, S, P⟩ => ⟨W, env, s, en, S, P.s⟩
end
end Fn

set_option Elab.async false
set_option linter.all false
set_option maxRecDepth 100000
set_option maxHeartbeats 2000000
namespace Fn
open PySem L2 PySem.Spec PyProof.Rows
theorem R.bind_assoc {α β γ : Type} (r : R α) (f : α → Sto → R β) (h : β → Sto → R γ) : (r.bind f).bind h = r.bind fun a s => (f a s).bind h := by cases r <;> rfl
theorem R.bind_nox_ok {α β γ : Type} (r : R α) (f : α → β) (k : β → Sto → R γ) : (r.bind fun a s => .ok (f a) s).nox.bind k = r.nox.bind fun a s => k (f a) s := by cases r <;> rfl
section
variable {K : PySem.W.Frag} {M : Nm} {g : Nat → Prop} {α β γ δ κ : Type} {rel : Wd → β → α → Prop} {rel2 : Wd → δ → γ → Prop} {E E0 : WS} {W W' W1 W2 : Wd} {H : Hp} {s : Sto}
theorem Post.nob {f : α → Sto → R κ} {k : κ → Sto → R γ} {r : R α} {Q : δ → Hp → Prop} (P : Post K M g rel2 E W Q ((r.bind f).nox.bind k)) :
    Post K M g rel E0 W (fun b H1 => ∃ a s1 W1, Le W W1 ∧ StR K M W1 H1 g s1 ∧ rel W1 b a ∧ Post K M g rel2 E W1 Q ((f a s1).nox.bind k)) r := by
  cases r with
  | ok a s => exact fun W' H' b L S r => ⟨a, s, W', L, S, r, Post.mono (show Post K M g rel2 E W Q ((f a s).nox.bind k) from P) L⟩
  | ex x s => exact P.elim
  | no => exact P.elim
/-- .. the rest at a world of its own -/
theorem Post.nob2 {f : α → Sto → R κ} {k : κ → Sto → R γ} {r : R α} {Q : δ → Hp → Prop} (P : Post K M g rel2 E W Q ((r.bind f).nox.bind k)) :
    Post K M g rel E0 W' (fun b H1 => ∃ a s1 W1, Le W' W1 ∧ StR K M W1 H1 g s1 ∧ rel W1 b a ∧ Post K M g rel2 E W Q ((f a s1).nox.bind k)) r := by
  cases r with
  | ok a s => exact fun W2 H' b L S r => ⟨a, s, W2, L, S, r, P⟩
  | ex x s => exact P.elim
  | no => exact P.elim
theorem Le.keep {p : Addr} {o : Option HO} (h : Le W W') : Le (W.keep p o) (W'.keep p o) := ⟨h.fz, h.n, h.bt, by
  funext a
  show (if a = p then o else W'.fr a) = if a = p then o else W.fr a
  rw [h.fr], h.lc⟩
theorem keep_keep {p : Addr} {o u : Option HO} : (W.keep p o).keep p u = W.keep p u := by
  unfold Wd.keep
  congr 1
  funext a
  by_cases h : a = p
  · simp [h]
  · simp [h]
theorem Lw.keep {p : Addr} {o : Option HO} (h : Lw W W') : Lw W (W'.keep p o) := ⟨h.fz, h.n, h.bt, h.lc⟩
end
/-! ### targets -/
mutual
def slotsT : Tgt → List Nat
  | .nm i => [i]
  | .tp ts => slotsTs ts
  | .star ts i us => slotsTs ts ++ i :: slotsTs us
  | _ => []
def slotsTs : List Tgt → List Nat
  | [] => []
  | t :: ts => slotsT t ++ slotsTs ts
end
def TGn (K : PySem.W.Frag) (M : Nm) (g : Nat → Prop) (n : Nat) (t : Tgt) : TG := fun x σ H k => ∃ W env s d env1, EnvR K M W σ env ∧ StR K M W H g s ∧ Rl K M W x d ∧ bindT n t d s env = some env1 ∧
  ∀ σ1, EnvR K M W σ1 env1 → (∀ vs, (∀ i ∈ slotsT t, i ∈ vs) → L2.wipe σ1 vs = L2.wipe σ vs) → k σ1 H
def TGsn (K : PySem.W.Frag) (M : Nm) (g : Nat → Prop) (n : Nat) (ts : List Tgt) : TGs := fun xs σ H k => ∃ W env s ds env1, EnvR K M W σ env ∧ StR K M W H g s ∧ RlL K M W xs ds ∧ bindT.go n ts ds s env = some env1 ∧ ts.length = ds.length ∧
  ∀ σ1, EnvR K M W σ1 env1 → (∀ vs, (∀ i ∈ slotsTs ts, i ∈ vs) → L2.wipe σ1 vs = L2.wipe σ vs) → k σ1 H
theorem set_comm_eq {α : Type} (l : List α) (i j : Nat) (a b : α) (h : i ≠ j) : (l.set i a).set j b = (l.set j b).set i a := List.set_comm _ _ h
theorem wipe_set {σ : L2.St} {v : Option V} {i : Nat} : ∀ {vs : List Nat}, i ∈ vs → L2.wipe (σ.set i v) vs = L2.wipe σ vs
  | w :: vs, h => by
    show (L2.wipe (σ.set i v) vs).set w none = (L2.wipe σ vs).set w none
    by_cases e : i ∈ vs
    · rw [wipe_set e]
    · have h : i = w := by simpa [e] using h
      subst h
      have key : ∀ (us : List Nat), i ∉ us → L2.wipe (σ.set i v) us = (L2.wipe σ us).set i v := by
        intro us
        induction us with
        | nil => intro _; rfl
        | cons u us ih =>
          intro hn
          show (L2.wipe (σ.set i v) us).set u none = ((L2.wipe σ us).set u none).set i v
          rw [ih (fun z => hn (List.mem_cons_of_mem _ z)), List.set_comm]
          exact fun z => hn (by rw [z]; exact List.mem_cons_self)
      rw [key vs e, List.set_set]
theorem wipe_wipe (σ : L2.St) : ∀ vs : List Nat, L2.wipe (L2.wipe σ vs) vs = L2.wipe σ vs := by
  intro vs
  have key : ∀ us : List Nat, (∀ u ∈ us, u ∈ vs) → L2.wipe (L2.wipe σ us) vs = L2.wipe σ vs := by
    intro us
    induction us with
    | nil => intro _; rfl
    | cons u us ih =>
      intro h
      show L2.wipe ((L2.wipe σ us).set u none) vs = _
      rw [wipe_set (h u List.mem_cons_self), ih fun w hw => h w (List.mem_cons_of_mem _ hw)]
  exact key vs fun _ h => h
def isStar : Expr → Bool
  | .Starred _ _ => true
  | _ => false
theorem star_cons {e : Expr} {es : List Expr} {env : PySem.Env} (h : isStar e = false) : starEach (e :: es) env = (false, eval e env) :: starEach es env := by
  cases e <;> first | rfl | cases h
theorem star_back {env : PySem.Env} {pos : Pos} : ∀ {es : List Expr}, (es.all fun e => !isStar e) = true → (backTo pos (starEach es env)).any (·.1) = false
  | [], _ => rfl
  | e :: es, h => by
    simp only [List.all_cons, Bool.and_eq_true, Bool.not_eq_true'] at h
    rw [star_cons h.1]
    show (false || (backTo pos (starEach es env)).any (·.1)) = false
    rw [star_back h.2]
    rfl
theorem asgE_cons {e : Expr} {es : List Expr} {env : PySem.Env} (h : isStar e = false) : assignEach (e :: es) env = (false, assign e env) :: assignEach es env := by
  cases e <;> first | rfl | cases h
/-- a name that is stored: its scope sc, the scope wsc as written -/
def stoOk (sc wsc : Scope) (x : Str) : Bool := (match sc.names.lookup x with | some .local => true | some .cell => (match wsc.names.lookup x with | some .cell => true | _ => false) | _ => false)
theorem stoOk_ok {X : Cx} {wsc : Scope} {x : Str} (hf : ∀ x, wsc.names.lookup x = some .cell → X.fn x = true) (h : stoOk X.env.scope wsc x = true) : Loc X.env.scope x ∧ (X.fn x = true ∨ X.env.scope.names.lookup x = some .local) := by
  unfold stoOk at h
  split at h
  · rename_i e; exact ⟨.inl e, .inr e⟩
  · rename_i e
    split at h
    · rename_i e2
      exact ⟨.inr e, .inl (hf _ e2)⟩
    · cases h
  · cases h
/-- loops' targets -/
def chkT (N : List Str) (sc wsc : Scope) : Nat → Tgt → Expr → Bool
  | _, .nm i, .Name x _ => decide (N[i]? = some x) && stoOk sc wsc x
  | n + 1, .tp ts, .Tuple es _ _ => go n ts es
  | _, _, _ => false
where
  go : Nat → List Tgt → List Expr → Bool
    | _, [], [] => true
    | n, t :: ts, e :: es => !isStar e && chkT N sc wsc n t e && go n ts es
    | _, _, _ => false
mutual
theorem chkT_ok {X : Cx} {M : Nm} {g : Nat → Prop} {wsc : Scope} (hc : X.calm = true) (hN : X.N.Nodup) (hf : ∀ x, wsc.names.lookup x = some .cell → X.fn x = true) : ∀ (n : Nat) (t : Tgt) (e : Expr), chkT X.N X.env.scope wsc n t e = true → PG X e (TGn X.K M g n t)
  | n, .nm i, .Name x pos, h => by
    have h : (decide (X.N[i]? = some x) && stoOk X.env.scope wsc x) = true := by cases n <;> exact h
    simp only [Bool.and_eq_true, decide_eq_true_eq] at h
    have q := stoOk_ok hf h.2
    refine ⟨fun pins s σ H v u Q I r hw => (pg_name hN h.1 q.1 q.2).run pins s σ H v u Q I r ?_⟩
    obtain ⟨W, env, st, d, env1, e, S, rl, hb, k⟩ := hw
    have hb : some (env.set i (some d)) = some env1 := by cases n <;> exact hb
    cases hb
    exact k _ (e.set rl) fun vs hv => wipe_set (hv i (by simp [slotsT]))
  | n + 1, .tp ts, .Tuple es kk pos, h => by
    have h : chkT.go X.N X.env.scope wsc n ts es = true := h
    obtain ⟨q, hl, hst⟩ := chkTs_ok (M := M) (g := g) hc hN hf n ts es h
    refine ⟨fun pins s σ H v u Q I r hw => (pg_tup hc q hl hst).run pins s σ H v u Q I r ?_⟩
    obtain ⟨W, env, st, d, env1, e, S, rl, hb, k⟩ := hw
    cases rl with
    | @tup a0 vs0 ds0 hz rl =>
      have hb : (if ts.length = ds0.length then bindT.go n ts ds0 st env else none) = some env1 := hb
      split at hb
      · rename_i hlen
        refine ⟨_, _, rfl, SqT.of (rdx_tup (S.fz _ _ hz)), ?_, W, env, st, _, env1, e, S, rl, hb, hlen, fun σ1 e1 hw => k σ1 e1 fun vs hv => hw vs fun i hi => hv i (by unfold slotsT; exact hi)⟩
        rw [rl.length, ← hlen]
      · cases hb
    | _ => cases hb
  | 0, .tp ts, .Tuple es kk pos, h => by cases h
theorem chkTs_ok {X : Cx} {M : Nm} {g : Nat → Prop} {wsc : Scope} (hc : X.calm = true) (hN : X.N.Nodup) (hf : ∀ x, wsc.names.lookup x = some .cell → X.fn x = true) : ∀ (n : Nat) (ts : List Tgt) (es : List Expr), chkT.go X.N X.env.scope wsc n ts es = true →
    PGs X es (TGsn X.K M g n ts) ∧ (assignEach es X.env).length = ts.length ∧ (assignEach es X.env).findIdx? (·.1) = none
  | n, [], [], h => by
    refine ⟨⟨fun pins s σ H vs us Q I r hw => pgs_nil.run pins s σ H vs us Q I r ?_⟩, rfl, rfl⟩
    obtain ⟨W, env, st, ds, env1, e, S, rl, hb, hl, k⟩ := hw
    cases ds with
    | cons _ _ => cases hl
    | nil =>
      cases rl
      have hb : some env = some env1 := by cases n <;> exact hb
      cases hb
      exact ⟨rfl, k σ e fun _ _ => rfl⟩
  | n, t :: ts, e :: es, h => by
    have h : (!isStar e && chkT X.N X.env.scope wsc n t e && chkT.go X.N X.env.scope wsc n ts es) = true := by cases n <;> exact h
    simp only [Bool.and_eq_true, Bool.not_eq_true'] at h
    have q1 := chkT_ok (M := M) (g := g) hc hN hf n t e h.1.2
    obtain ⟨q2, q3, q4⟩ := chkTs_ok (M := M) (g := g) hc hN hf n ts es h.2
    have hs := asgE_cons (es := es) (env := X.env) h.1.1
    refine ⟨⟨fun pins s σ H vs us Q I r hw => (pgs_cons q1 q2 (by rw [hs]; rfl)).run pins s σ H vs us Q I r ?_⟩, by rw [hs]; show _ + 1 = _ + 1; rw [q3], by rw [hs, List.findIdx?_cons]; simp [q4]⟩
    obtain ⟨W, env, st, ds, env1, en, S, rl, hb, hl, k⟩ := hw
    cases rl with
    | nil => cases hl
    | @cons v d vs ds rv rl =>
      have hb : (match bindT n t d st env with | some env => bindT.go n ts ds st env | none => none) = some env1 := by cases n <;> exact hb
      cases h1 : bindT n t d st env with
      | none => rw [h1] at hb; cases hb
      | some env2 =>
        rw [h1] at hb
        refine ⟨v, vs, rfl, W, env, st, d, env2, en, S, rv, h1, fun σ1 e1 w1 => ⟨W, env2, st, ds, env1, e1, S, rl, hb, Nat.succ.inj hl, fun σ2 e2 w2 => k σ2 e2 fun us hu => ?_⟩⟩
        rw [w2 us fun i hi => hu i (by unfold slotsTs; exact List.mem_append_right _ hi), w1 us fun i hi => hu i (by unfold slotsTs; exact List.mem_append_left _ hi)]
end
/-! ### list comprehensions of one clause -/
def bodyL (t : Tgt) (own : List Nat) (env : Env) (fts : Env → Sto → R Bool) (fe : FE) : D → Sto → R (List D) := fun d s => match bindT 3 t d s (wipe env own) with
  | some env1 => (fts env1 s).bind fun b s => if b = true then (fe env1 s).bind fun d s => .ok [d] s else .ok [] s
  | none => .no
def fLc (m : Bool) (own : List Nat) (t : Tgt) (fi : FI) (fts : Env → Sto → R Bool) (fe : FE) : FE := fun env s => (fi env s).bind fun p s =>
  (lcL (bodyL t own env fts fe) p.1 (lockAll p.2 s).2).nox.bind fun ds s' => if ds.length ≤ lenLine then mkOb m (.lst ds) (unlockAll (lockAll p.2 s).1 s') else .no
theorem nox_len {K : PySem.W.Frag} {M : Nm} {g : Nat → Prop} {E : WS} {W : Wd} {Q : VK} {r : R (List D)} {a : List D} {k : List D → Sto → R D} (P : Post K M g (Rl K M) E W Q (r.nox.bind fun ys s => if (a ++ ys).length ≤ lenLine then k ys s else .no)) : a.length ≤ lenLine := by
  cases r with
  | ok ys s =>
    have P : Post K M g (Rl K M) E W Q (if (a ++ ys).length ≤ lenLine then k ys s else .no) := P
    split at P
    · rename_i h
      rw [List.length_append] at h
      omega
    · exact P.elim
  | ex _ _ => exact P.elim
  | no => exact P.elim
abbrev noE : WX := fun _ _ _ _ => False
section
variable {X : Cx} {M : Nm} {g : Nat → Prop} {E : WX}
theorem lc_rd {m : Bool} {own : List (Str × Nat)} {t : Tgt} {fi : FI} {fts : Env → Sto → R Bool} {fe : FE} (hot : ∀ i ∈ slotsT t, i ∈ own.map (·.2)) {σ : L2.St} {H : Hp} {Q : VK} (q : TF X.K M g (fLc m (own.map (·.2)) t fi fts fe) E σ H Q) :
    tLc (TI' X M g fi E) (TGn X.K M g 3 t) (TT' X.K M g fts noE) (TF X.K M g fe noE) (own.map (·.2)) σ H (fun v H' => ∃ H'', Unl X H' H'' ∧ Q v H'') := by
  obtain ⟨W, env, s, en, S, P⟩ := q
  refine ⟨W, env, s, en, S, ?_⟩
  have P : Post X.K M g (Rl X.K M) (wE E σ) W Q ((fi env s).bind fun p s =>
    (lcL (bodyL t (own.map (·.2)) env fts fe) p.1 (lockAll p.2 s).2).nox.bind fun ds s' => if ds.length ≤ lenLine then mkOb m (.lst ds) (unlockAll (lockAll p.2 s).1 s') else .no) := P
  cases hfi : fi env s with
  | no => rw [hfi] at P; exact P
  | ex x s1 => rw [hfi] at P; exact P
  | ok p s1 =>
    rw [hfi] at P
    have P : Post X.K M g (Rl X.K M) (wE E σ) W Q ((lcL (bodyL t (own.map (·.2)) env fts fe) p.1 (lockAll p.2 s1).2).nox.bind fun ds s' => if ds.length ≤ lenLine then mkOb m (.lst ds) (unlockAll (lockAll p.2 s1).1 s') else .no) := P
    intro W1 H1 J L1 ⟨W2, sm, S2, it, un⟩ D hD
    have P1 := Post.mono P L1
    clear P
    obtain ⟨ds, ls⟩ := p
    dsimp only at P1 it un S2 sm
    generalize hs2 : (lockAll ls s1).2 = s2 at P1 S2
    generalize hll : (lockAll ls s1).1 = ll at P1 un
    have frD : W2.fr D = none := by
      cases q : W2.fr D with
      | none => rfl
      | some w => have := (S2.fr _ _ q).1; rw [hD] at this; cases this
    have Sk := S2.keep (ho := .lst []) hD
    refine ⟨fun i mm H => mm = ds.length - i ∧ i ≤ ds.length ∧ ∃ W3 s3 accV accD, Le W2 (W3.keep D none) ∧ StR X.K M W3 H g s3 ∧ W3.fr D = some (.lst accV) ∧ RlL X.K M W3 accV accD ∧
        Post X.K M g (Rl X.K M) (wE E σ) W1 Q ((lcL (bodyL t (own.map (·.2)) env fts fe) (ds.drop i) s3).nox.bind fun ys s' => if (accD ++ ys).length ≤ lenLine then mkOb m (.lst (accD ++ ys)) (unlockAll ll s') else .no), ⟨_, rfl, Nat.zero_le _, W2.keep D (some (.lst [])), s2, [], [], ?_, Sk, Wd.keep_at, .nil, ?_⟩, ?_⟩
    · rw [keep_keep]
      exact ⟨fun _ _ h => h, Nat.le_refl _, fun _ _ => rfl, by
        funext a
        show (if a = D then none else W2.fr a) = W2.fr a
        split
        · rename_i z; rw [z, frD]
        · rfl, rfl⟩
    · rw [List.drop_zero]
      simpa using P1
    rintro i mm H3 ⟨rfl, hile, W3, s3, accV, accD, L3, S3, frW3, rac, P3⟩
    have Lw3 : Lw W2 W3 := ⟨L3.fz, L3.n, L3.bt, L3.lc⟩
    by_cases hlt : i < ds.length
    · right
      obtain ⟨go, yl⟩ := (it W3 H3 s3 i Lw3 S3).2 ds[i] (List.getElem?_eq_getElem hlt)
      refine ⟨go, fun H => i + 1 ≤ ds.length ∧ ∃ W3 s3 accV accD, Le W2 (W3.keep D none) ∧ StR X.K M W3 H g s3 ∧ W3.fr D = some (.lst accV) ∧ RlL X.K M W3 accV accD ∧
        Post X.K M g (Rl X.K M) (wE E σ) W1 Q ((lcL (bodyL t (own.map (·.2)) env fts fe) (ds.drop (i + 1)) s3).nox.bind fun ys s' => if (accD ++ ys).length ≤ lenLine then mkOb m (.lst (accD ++ ys)) (unlockAll ll s') else .no), fun H' hN' => ⟨ds.length - (i + 1), by omega, rfl, hN'⟩, fun x H' hy => ?_⟩
      obtain ⟨W4, L4, S4, rx⟩ := yl x H' hy
      have en4 : EnvR X.K M W4 (L2.wipe σ (own.map (·.2))) (wipe env (own.map (·.2))) := (((sm.en (en.mono L1)).wipe _) |> Lw3.en).mono L4
      rw [List.drop_eq_getElem_cons hlt] at P3
      have P3 : Post X.K M g (Rl X.K M) (wE E σ) W1 Q ((((bodyL t (own.map (·.2)) env fts fe) ds[i] s3).bind fun xs s => (lcL (bodyL t (own.map (·.2)) env fts fe) (ds.drop (i + 1)) s).bind fun ys s => .ok (xs ++ ys) s).nox.bind fun ys s' => if (accD ++ ys).length ≤ lenLine then mkOb m (.lst (accD ++ ys)) (unlockAll ll s') else .no) := P3
      cases hb : bindT 3 t ds[i] s3 (wipe env (own.map (·.2))) with
      | none =>
        have e0 : bodyL t (own.map (·.2)) env fts fe ds[i] s3 = .no := by
          show (match bindT 3 t ds[i] s3 (wipe env (own.map (·.2))) with | some env1 => _ | none => R.no) = _
          rw [hb]
        rw [e0] at P3
        exact P3.elim
      | some env1 =>
        have e0 : bodyL t (own.map (·.2)) env fts fe ds[i] s3 = (fts env1 s3).bind fun b s => if b = true then (fe env1 s).bind fun d s => .ok [d] s else .ok [] s := by
          show (match bindT 3 t ds[i] s3 (wipe env (own.map (·.2))) with | some env1 => _ | none => R.no) = _
          rw [hb]
        rw [e0, R.bind_assoc] at P3
        refine ⟨W4, _, s3, _, env1, en4, S4, rx, hb, fun σ1 en5 hw5 => ⟨?_, W4, env1, s3, en5, S4, ?_⟩⟩
        · rw [hw5 _ hot, wipe_wipe]
        have accIn : ∀ {W5}, Le W4 W5 → Le W2 (W5.keep D none) ∧ W5.fr D = some (.lst accV) := fun {W5} L5 => by
          refine ⟨L3.trans ((L4.trans L5).keep), ?_⟩
          rw [L5.fr, L4.fr, frW3]
        refine (Post.nob2 (W' := W4) P3).imp fun b H4 ⟨b', s5, W5, L5, S5, eb, P5⟩ => ?_
        have eb : b = b' := eb
        subst eb
        cases b with
        | false =>
          refine ⟨hlt, W5, s5, accV, accD, (accIn L5).1, S5, (accIn L5).2, (rac.mono (L4.trans L5)), ?_⟩
          have P6 : Post X.K M g (Rl X.K M) (wE E σ) W1 Q (((lcL (bodyL t (own.map (·.2)) env fts fe) (ds.drop (i + 1)) s5).bind fun ys s => .ok ([] ++ ys) s).nox.bind fun ys s' => if (accD ++ ys).length ≤ lenLine then mkOb m (.lst (accD ++ ys)) (unlockAll ll s') else .no) := P5
          rw [R.bind_nox_ok] at P6
          exact P6
        | true =>
          have P6 : Post X.K M g (Rl X.K M) (wE E σ) W1 Q ((((fe env1 s5).bind fun d s => .ok [d] s).bind fun xs s => (lcL (bodyL t (own.map (·.2)) env fts fe) (ds.drop (i + 1)) s).bind fun ys s => .ok (xs ++ ys) s).nox.bind fun ys s' => if (accD ++ ys).length ≤ lenLine then mkOb m (.lst (accD ++ ys)) (unlockAll ll s') else .no) := P5
          rw [R.bind_assoc] at P6
          refine ⟨W5, env1, s5, en5.mono L5, S5, (Post.nob2 (W' := W5) P6).imp fun y H5 ⟨d2, s6, W6, L6, S6, ry, P7⟩ => ?_⟩
          have P8 : Post X.K M g (Rl X.K M) (wE E σ) W1 Q (((lcL (bodyL t (own.map (·.2)) env fts fe) (ds.drop (i + 1)) s6).bind fun ys s => .ok ([d2] ++ ys) s).nox.bind fun ys s' => if (accD ++ ys).length ≤ lenLine then mkOb m (.lst (accD ++ ys)) (unlockAll ll s') else .no) := P7
          rw [R.bind_nox_ok] at P8
          simp only [← List.append_assoc] at P8
          have hfr := accIn (L5.trans L6)
          have hlen := nox_len P8
          have l2 := rac.length
          refine ⟨accV, (S6.fr _ _ hfr.2).1, ?_, hlt, W6.keep D (some (.lst (accV ++ [y]))), s6, accV ++ [y], accD ++ [d2], ?_, S6.kept hfr.2, Wd.keep_at, ((rac.mono (L4.trans (L5.trans L6))).append (.cons ry .nil)).wd (by rfl) (by rfl) (by rfl), P8⟩
          · rw [← lenLine_eq, l2]
            rw [List.length_append] at hlen
            exact Nat.lt_of_succ_le hlen
          · rw [keep_keep]
            exact hfr.1
    · left
      have hi' : i = ds.length := by omega
      subst hi'
      refine ⟨(it W3 H3 s3 _ Lw3 S3).1 (Nat.le_refl _), ?_⟩
      obtain ⟨W4, H4, sm4, lc4, ul, S4⟩ := un W3 H3 s3 Lw3 S3
      rw [List.drop_length] at P3
      have P3 : Post X.K M g (Rl X.K M) (wE E σ) W1 Q (if (accD ++ []).length ≤ lenLine then mkOb m (.lst (accD ++ [])) (unlockAll ll s3) else .no) := P3
      rw [List.append_nil] at P3
      split at P3
      · have fr4 : W4.fr D = some (.lst accV) := by rw [sm4.fr, frW3]
        have nf : W4.fz D = none := (S4.fr _ _ fr4).2.1
        have L14 : Le W1 (W4.keep D none) := by
          refine ⟨fun a o h => ?_, ?_, fun l h => ?_, ?_, lc4⟩
          · show W4.fz a = some o
            rw [sm4.fz]
            exact L3.fz a o (by rw [sm.fz]; exact h)
          · show W1.n ≤ W4.n
            rw [sm4.n, ← sm.n]
            exact L3.n
          · show W4.bt l = W1.bt l
            rw [sm4.bt, ← sm.bt]
            exact L3.bt l (by rw [sm.n]; exact h)
          · rw [← sm.fr, ← L3.fr]
            funext a
            show (if a = D then none else W4.fr a) = if a = D then none else W3.fr a
            rw [sm4.fr]
        have r4 : RlL X.K M W4 accV accD := sm4.rlL rac
        refine ⟨H4, ul, ?_⟩
        unfold mkOb at P3
        cases m with
        | true =>
          rw [if_pos rfl] at P3
          refine P3 _ _ _ (L14.trans Wd.addL_le) (S4.placed fr4 (.lst r4)) ?_
          have z : Rl X.K M ((W4.keep D none).addL D) (.ref (((W4.keep D none).addL D).bt W4.n)) (.loc W4.n) := .loc (Nat.lt_succ_self _)
          have e1 : ((W4.keep D none).addL D).bt W4.n = D := if_pos rfl
          rw [e1] at z
          rw [S4.len]
          exact z
        | false =>
          rw [if_neg (by decide)] at P3
          refine P3 _ _ _ (L14.trans (Wd.addF_le nf)) (S4.frozen fr4) (.frz Wd.addF_at ?_)
          exact .lst ((r4.wd (W' := W4.keep D none) (by rfl) (by rfl) (by rfl)).mono (Wd.addF_le (W := W4.keep D none) nf))
      · exact P3.elim
theorem s_lc {m : Bool} {elt tg iter : Expr} {ifs : List Expr} {scope : Scope} {own : List (Str × Nat)} {pos : Pos} {t : Tgt} {fi : FI} {fts : Env → Sto → R Bool} {fe : FE} (hc : X.calm = true) (hN : X.N.Nodup) (hi : PI X tg iter (TI' X M g fi E)) (ok : BlkOk X.N X.env.scope scope own)
    (hot : ∀ i ∈ slotsT t, i ∈ own.map (·.2))
    (hg : ∀ (s : Shared) (H : Hp) (C : Addr) (cl : List (Str × Addr)) (fp : List Addr), PG (X.blk s H scope (compEnvC scope cl C X.env) fp) tg (TGn X.K M g 3 t))
    (ht : ∀ (s : Shared) (H : Hp) (C : Addr) (cl : List (Str × Addr)) (fp : List Addr), PTs (X.blk s H scope (compEnvC scope cl C X.env) fp) ifs (TT' X.K M g fts noE))
    (he : ∀ (s : Shared) (H : Hp) (C : Addr) (cl : List (Str × Addr)) (fp : List Addr), PE (X.blk s H scope (compEnvC scope cl C X.env) fp) elt (TF X.K M g fe noE)) (hs : ∀ x, foldedSetIterable iter X.env x = pure x) :
    PE X (.ListComp elt [⟨tg, iter, ifs, 0⟩] scope pos) (TF X.K M g (fLc m (own.map (·.2)) t fi fts fe) E) := by
  exact PE.imp (pe_unl (pe_lc hc hN hi ok hg ht he hs)) fun σ H Q q => lc_rd hot q
/-- name = [..] on the name's line -/
theorem s_setLc {m : Bool} {i : Nat} {y : Str} {py spos : Pos} {elt tg iter : Expr} {ifs : List Expr} {scope : Scope} {own : List (Str × Nat)} {pos : Pos} {t : Tgt} {fi : FI} {fts : Env → Sto → R Bool} {fe : FE} (hc : X.calm = true) (hN : X.N.Nodup) (hy : X.N[i]? = some y) (hyl : X.env.scope.names.lookup y = some .local)
    (hsw : swapsWith (.ListComp elt [⟨tg, iter, ifs, 0⟩] scope pos) (some (.Name y py)) spos.line X.env = pure true) (hi : PI X tg iter (TI' X M g fi E)) (ok : BlkOk X.N X.env.scope scope own)
    (hot : ∀ i ∈ slotsT t, i ∈ own.map (·.2))
    (hg : ∀ (s : Shared) (H : Hp) (C : Addr) (cl : List (Str × Addr)) (fp : List Addr), PG (X.blk s H scope (compEnvC scope cl C X.env) fp) tg (TGn X.K M g 3 t))
    (ht : ∀ (s : Shared) (H : Hp) (C : Addr) (cl : List (Str × Addr)) (fp : List Addr), PTs (X.blk s H scope (compEnvC scope cl C X.env) fp) ifs (TT' X.K M g fts noE))
    (he : ∀ (s : Shared) (H : Hp) (C : Addr) (cl : List (Str × Addr)) (fp : List Addr), PE (X.blk s H scope (compEnvC scope cl C X.env) fp) elt (TF X.K M g fe noE)) (hs : ∀ x, foldedSetIterable iter X.env x = pure x) :
    PS X (.Assign [.Name y py] (.ListComp elt [⟨tg, iter, ifs, 0⟩] scope pos) spos) (fun D σ H => TF X.K M g (fLc m (own.map (·.2)) t fi fts fe) E σ H fun v H' => D.nx (σ.set i (some v)) H') := by
  refine ⟨fun pins s σ H D I q => (ps_unl (ps_setLc hc hN hy hyl hsw hi ok hg ht he hs)).run pins s σ H D I ?_⟩
  exact lc_rd (m := m) (Q := fun v H' => D.nx (σ.set i (some v)) H') hot q
end
end Fn

set_option Elab.async false
set_option linter.all false
set_option maxRecDepth 100000
set_option maxHeartbeats 2000000
namespace Fn
open PySem L2 PySem.Spec PyProof.Rows
section
variable {X : Cx} {M : Nm} {g : Nat → Prop} {W : Wd} {H : Hp} {s : Sto} {E : WX}
/-- what a dict's lock gives -/
def DLk (X : Cx) (M : Nm) (g : Nat → Prop) (W : Wd) (H1 : Hp) (s : Sto) (d : D) (a : Addr) (u : HO) : Prop :=
  ∃ W2, Sm W W2 ∧ StR X.K M W2 H1 g (lockAll (lockOf d) s).2 ∧ (∀ W3 H3 s3, Lw W2 W3 → StR X.K M W3 H3 g s3 → H3 a = some u) ∧
    ∀ W3 H3 s3, Lw W2 W3 → StR X.K M W3 H3 g s3 → ∃ W4 H4, Sm W3 W4 ∧ W4.lc = W.lc ∧ Unl X H3 H4 ∧ StR X.K M W4 H4 g (unlockAll (lockAll (lockOf d) s).1 s3)
theorem dct_lock {x : V} {d : D} {t : Bool} {es : List (GKey × D)} (r : Rl X.K M W x d) (S : StR X.K M W H g s) (e : dctOf d s = some (t, es)) :
    ∃ a ho, x = .ref a ∧ RlO X.K M W ho (.dct t es) ∧ ((∃ od, H a = some (.frz od ho) ∧ DLk X M g W H s d a (.frz od ho)) ∨
      (H a = some ho ∧ ∀ od, (∀ o' u', X.H_0 a ≠ some (.frz o' u')) → DLk X M g W (upd H a (.frz od ho)) s d a (.frz od ho))) := by
  have e2 : view d s = some (.dct t es) := by
    revert e
    unfold dctOf
    split
    · intro e; cases e; assumption
    · intro e; cases e
  have lcn : ∀ {a ho}, H a = some ho → isDct ho = true → W.lc a = none := fun {a ho} h1 h2 => by
    cases q : W.lc a with
    | none => rfl
    | some w =>
      obtain ⟨q1, q2, _⟩ := S.lc _ _ q
      rw [h1] at q1
      cases q1
      rw [h2] at q2
      cases q2
  cases r with
  | @frz a ho o h q =>
    cases e2
    have hd : isDct ho = true := by cases q <;> rfl
    have dd : ∀ {W1 : Wd} {H1 : Hp} {s1 : Sto}, StR X.K M W1 H1 g s1 → W1.fz a = some ho → ∀ l, l < W1.n → W1.bt l = a → s1.ob[l]? = some .dead := fun {W1 H1 s1} S1 h1 l hl eb => by
      obtain ⟨o, eo⟩ := S1.bt_lt hl
      cases S1.ob l o eo with
      | live _ _ z => rw [eb, h1] at z; cases z
      | lkL _ _ z => rw [eb, h1] at z; cases z
      | lkD _ _ _ z => rw [eb, h1] at z; cases z
      | dead _ _ => exact eo
    have nlk : ∀ {W1 : Wd} {H1 : Hp} {s1 : Sto}, StR X.K M W1 H1 g s1 → W1.fz a = some ho → ∀ l v, s1.ob[l]? = some (.lk v) → W1.bt l ≠ a := fun {W1 H1 s1} S1 h1 l v eo eb => by
      have := dd S1 h1 l (S1.lt eo) eb
      rw [eo] at this
      cases this
    refine ⟨a, ho, rfl, q, ?_⟩
    rcases S.fz _ _ h with h1 | ⟨_, od, h1⟩
    · refine .inr ⟨h1, fun od hn => ?_⟩
      have hlc := lcn h1 hd
      have S2 := S.refz (u := .frz od ho) h hd (.inr ⟨od, rfl⟩) (some (.frz od ho)) (fun w z => by cases z; exact ⟨rfl, rfl⟩) (fun _ => dd S h) (fun z => by cases z)
      refine ⟨W.lock a (some (.frz od ho)), ⟨rfl, rfl, rfl, rfl⟩, S2, fun W3 H3 s3 L S3 => (S3.lc a _ (by rw [L.lc]; exact if_pos rfl)).1, fun W3 H3 s3 L S3 => ?_⟩
      have e3 : H3 a = some (.frz od ho) := (S3.lc a _ (by rw [L.lc]; exact if_pos rfl)).1
      have z3 : W3.fz a = some ho := L.fz _ _ h
      refine ⟨W3.lock a none, upd H3 a ho, ⟨rfl, rfl, rfl, rfl⟩, ?_, .step e3 hn .refl, S3.refz z3 hd (.inl rfl) none (fun w z => by cases z) (fun z => absurd rfl z) (fun _ => nlk S3 z3)⟩
      funext b
      show (if b = a then none else W3.lc b) = W.lc b
      rw [L.lc]
      show (if b = a then none else if b = a then _ else W.lc b) = W.lc b
      by_cases z : b = a
      · rw [if_pos z, z, hlc]
      · rw [if_neg z, if_neg z]
    · refine .inl ⟨od, h1, ?_⟩
      cases hlc : W.lc a with
      | some w =>
        have ew : w = .frz od ho := by
          have := (S.lc _ _ hlc).1
          rw [h1] at this
          cases this
          rfl
        subst ew
        exact ⟨W, .refl, S, fun W3 H3 s3 L S3 => (S3.lc a _ (by rw [L.lc]; exact hlc)).1, fun W3 H3 s3 L S3 => ⟨W3, H3, .refl, L.lc, .refl, S3⟩⟩
      | none =>
        have S2 := S.refz (u := .frz od ho) h hd (.inr ⟨od, rfl⟩) (some (.frz od ho)) (fun w z => by cases z; exact ⟨rfl, rfl⟩) (fun _ => dd S h) (fun z => by cases z)
        rw [upd_id h1] at S2
        refine ⟨W.lock a (some (.frz od ho)), ⟨rfl, rfl, rfl, rfl⟩, S2, fun W3 H3 s3 L S3 => (S3.lc a _ (by rw [L.lc]; exact if_pos rfl)).1, fun W3 H3 s3 L S3 => ?_⟩
        have z3 : W3.fz a = some ho := L.fz _ _ h
        refine ⟨W3.lock a none, H3, ⟨rfl, rfl, rfl, rfl⟩, ?_, .refl, S3.dropLc (nlk S3 z3)⟩
        funext b
        show (if b = a then none else W3.lc b) = W.lc b
        rw [L.lc]
        show (if b = a then none else if b = a then _ else W.lc b) = W.lc b
        by_cases z : b = a
        · rw [if_pos z, z, hlc]
        · rw [if_neg z, if_neg z]
  | @loc l hl =>
    have e2 : (s.ob[l]?).map Ob.unlk = some (.dct t es) := e2
    cases hq : s.ob[l]? with
    | none => rw [hq] at e2; cases e2
    | some o =>
      rw [hq] at e2
      have hu : o.unlk = .dct t es := Option.some.inj e2
      by_cases hk : ∃ o', o = .lk o'
      · obtain ⟨o', rfl⟩ := hk
        have hu : o' = .dct t es := hu
        subst hu
        have e1 : lockAll (lockOf (.loc l)) s = ([], s) := by
          show (match lock1 l s with | (none, s) => lockAll [] s | (some l, s) => let p := lockAll [] s; (l :: p.1, p.2)) = _
          rw [lock1_lk hq]
          rfl
        obtain ⟨w, h1, h2⟩ := S.lkd hq
        cases S.ob l _ hq with
        | live e r z => cases r
        | @lkD od ho _ e i r z =>
          rw [h2] at e
          cases e
          refine ⟨_, ho, rfl, r, .inl ⟨od, h2, W, .refl, by rw [e1]; exact S, fun W3 H3 s3 L S3 => (S3.lc _ _ (by rw [L.lc]; exact h1)).1, fun W3 H3 s3 L S3 => ⟨W3, H3, .refl, L.lc, .refl, by rw [e1]; exact S3⟩⟩⟩
      · have hn : ∀ o', o ≠ .lk o' := fun o' z => hk ⟨o', z⟩
        have ho : o = .dct t es := by
          cases o <;> first | exact hu | exact absurd rfl (hn _)
        subst ho
        have e1 : lockAll (lockOf (.loc l)) s = ([l], { s with ob := s.ob.set l (.lk (.dct t es)) }) := by
          show (match lock1 l s with | (none, s) => lockAll [] s | (some l, s) => let p := lockAll [] s; (l :: p.1, p.2)) = _
          rw [lock1_o hq hn]
          rfl
        cases S.ob l _ hq with
        | @live ho _ e r z =>
          have hd : isDct ho = true := by cases r <;> rfl
          refine ⟨_, ho, rfl, r, .inr ⟨e, fun od hnn => ?_⟩⟩
          have hlc := lcn e hd
          have S2 := S.locked (u := .frz od ho) hq hn z rfl (by intro z; cases z) .frz fun W' q => by
            cases q with
            | live e' r' z' =>
              rw [e] at e'
              cases e'
              exact .lkD upd_same hd r' z'
          refine ⟨W.lock (W.bt l) (some (.frz od ho)), ⟨rfl, rfl, rfl, rfl⟩, by rw [e1]; exact S2, fun W3 H3 s3 L S3 => (S3.lc _ _ (by rw [L.lc]; exact if_pos rfl)).1, fun W3 H3 s3 L S3 => ?_⟩
          have c3 : W3.lc (W.bt l) = some (.frz od ho) := by rw [L.lc]; exact if_pos rfl
          have hbt : W3.bt l = W.bt l := L.bt l hl
          have hl3 : l < W3.n := Nat.lt_of_lt_of_le hl L.n
          have lcq : (W3.lock (W.bt l) none).lc = W.lc := by
            funext b
            show (if b = W.bt l then none else W3.lc b) = W.lc b
            rw [L.lc]
            show (if b = W.bt l then none else if b = W.bt l then _ else W.lc b) = W.lc b
            by_cases z : b = W.bt l
            · rw [if_pos z, z, hlc]
            · rw [if_neg z, if_neg z]
          obtain ⟨d1, d2, d3, d4⟩ := S3.lc _ _ c3
          rw [e1]
          rcases d4 l hl3 hbt with hdead | ⟨o', ho'⟩
          · refine ⟨W3.lock (W.bt l) none, H3, ⟨rfl, rfl, rfl, rfl⟩, lcq, .refl, ?_⟩
            have e5 : unlockAll [l] s3 = s3 := by
              show unlock1 l s3 = _
              unfold unlock1
              rw [hdead]
            rw [e5]
            exact S3.dropLc fun k v hk => fun z => by
              have : k = l := S3.inj _ _ (S3.lt hk) hl3 (z.trans hbt.symm)
              rw [this, hdead] at hk
              cases hk
          · have e5 : unlockAll [l] s3 = { s3 with ob := s3.ob.set l o' } := by
              show unlock1 l s3 = _
              unfold unlock1
              rw [ho']
            have q5 : ∀ W', ObR X.K M W' H3 (W3.bt l) (.lk o') → isDct ho = true ∧ RlO X.K M W' ho o' ∧ W'.fz (W3.bt l) = none := fun W' q => by
              cases q with
              | live e r z => cases r
              | lkL e r z => rw [hbt, d1] at e; cases e
              | lkD e i r z => rw [hbt, d1] at e; cases e; exact ⟨hd, r, z⟩
            have q6 := q5 W3 (S3.ob l _ ho')
            have S6 := S3.unlocked (u := ho) ho' q6.2.2 (fun W' q => .live upd_same (q5 W' q).2.1 (q5 W' q).2.2) (fun o z => by rw [z] at q6; cases q6.2.1)
            rw [hbt] at S6
            exact ⟨W3.lock (W.bt l) none, upd H3 (W.bt l) ho, ⟨rfl, rfl, rfl, rfl⟩, lcq, .step d1 hnn .refl, by rw [e5]; exact S6⟩
  | _ => cases e2
/-- an expression whose dict is frozen where wanted -/
theorem pe_lockV {e : Expr} {t : TE} (h : PE X e t) : PE X e (fun σ H Q => t σ H fun x H1 => Q x H1 ∨ ∃ a u, x = .ref a ∧ H1 a = some u ∧ isDct u = true ∧ ∀ od, (∀ o' u', X.H_0 a ≠ some (.frz o' u')) → Q x (upd H1 a (.frz od u))) := by
  refine ⟨fun pins s σ H Q I hw => thn (h.run pins s σ H _ I hw) fun v s1 ⟨x, H1, I1, r, q⟩ => ?_⟩
  rcases q with q | ⟨a, u, ex, ea, hd, q⟩
  · exact ⟨x, H1, I1, r, q⟩
  · have mu : Mut (some u) := by cases u <;> first | exact trivial | cases hd
    obtain ⟨od, I2⟩ := I1.lock ea mu
    exact ⟨x, _, I2, r, q od (I1.nofrz ea mu)⟩
def fIt (fe : FE) : FI := fun env s => (fe env s).bind fun d s => match itemsI d s with
  | some ds => .ok (ds, lockOf d) s
  | none => .no
theorem rlk_at : ∀ {kvs : List (Key × V)} {es : List (GKey × D)} {i : Nat} {k : GKey} {d : D}, RlK X.K M W kvs es → es[i]? = some (k, d) → ∃ k' v, k = .one k' ∧ kvs[i]? = some (k'.k, v) ∧ Rl X.K M W v d
  | _, _, 0, _, _, .cons a _, e => by simp at e; obtain ⟨rfl, rfl⟩ := e; exact ⟨_, _, rfl, rfl, a⟩
  | _, _, i + 1, _, _, .cons _ b, e => by
    obtain ⟨k', v, h0, h1, h2⟩ := rlk_at (i := i) b (by simpa using e)
    exact ⟨k', v, h0, by simpa using h1, h2⟩
  | _, _, _, _, _, .nil, e => by simp at e
theorem ky_rl (k : Ky) : Rl X.K M W (kV k.k) k.d := by
  cases k with
  | i n => exact .int
  | s cs => exact .str
theorem itr_keys {a : Addr} {d : D} {od : Obj} {kvs : List (Key × V)} {es : List (GKey × D)} {H1 : Hp} (r : RlK X.K M W kvs es) (h : DLk X M g W H1 s d a (.frz od (.dK kvs))) : ItR X M g W H1 s (lockOf d) (Itk a od kvs) (es.map (·.1.d)) := by
  obtain ⟨W2, a1, a2, a3, a4⟩ := h
  refine ⟨W2, a1, a2, fun W3 H3 s3 i L S3 => ⟨fun hi => ⟨a3 W3 H3 s3 L S3, ?_⟩, fun d0 hd => ?_⟩, a4⟩
  · rw [r.length]; simpa using hi
  · rw [List.getElem?_map] at hd
    obtain ⟨⟨k, dv⟩, h1, rfl⟩ := Option.map_eq_some_iff.mp hd
    obtain ⟨k', v, rfl, h2, h3⟩ := rlk_at r h1
    refine ⟨⟨a3 W3 H3 s3 L S3, (List.getElem?_eq_some_iff.mp h2).1⟩, fun x H' ⟨y1, k2, v2, y2, y3⟩ => ?_⟩
    subst y1
    rw [h2] at y2
    cases y2
    subst y3
    exact ⟨W3, .refl, S3, ky_rl k'⟩
/-- a tuple that stands is one that never changes -/
theorem StR.asF {W : Wd} {H : Hp} {s : Sto} {q : Addr} {vs : List V} (S : StR X.K M W H g s) (h : H q = some (.tup vs)) : ∃ W', Le W W' ∧ StR X.K M W' H g s ∧ W'.fz q = some (.tup vs) := by
  cases hz : W.fz q with
  | some ho =>
    rcases S.fz q ho hz with z | ⟨_, od, z⟩
    · rw [h] at z; cases z
      exact ⟨W, .refl, S, hz⟩
    · rw [h] at z; cases z
  | none =>
    have L := Wd.addF_le (W := W) (ho := .tup vs) hz
    have nb : ∀ {W1 : Wd} {l o}, W1.fz = W.fz → ObR X.K M W1 H (W.bt l) o → ObR X.K M (W1.addF q (.tup vs)) H (W.bt l) o := fun {W1 l o} e1 r => by
      have L1 : Le W1 (W1.addF q (.tup vs)) := Wd.addF_le (by rw [e1]; exact hz)
      have nz : ∀ {u : HO}, H (W.bt l) = some u → (∀ xs, u ≠ .tup xs) → W1.fz (W.bt l) = none → (W1.addF q (.tup vs)).fz (W.bt l) = none := fun {u} e n z => by
        show (if W.bt l = q then _ else W1.fz (W.bt l)) = none
        rw [if_neg (fun y => by rw [y, h] at e; cases e; exact n _ rfl)]; exact z
      cases r with
      | live e r z => exact .live e (r.mono L1) (nz e r.nup z)
      | lkL e r z => exact .lkL e (r.mono L1) (nz e (fun _ y => (nomatch y)) z)
      | lkD e i r z => exact .lkD e i (r.mono L1) (nz e (fun _ y => (nomatch y)) z)
      | dead e n1 => exact .dead e n1
    refine ⟨W.addF q (.tup vs), L, ⟨fun a u e => ?_, S.len, fun l o e => nb rfl (S.ob l o e), S.inj, S.base, fun a u e => ?_, S.lc, S.lk, fun he m hg hm l o hl e => nb (W1 := W.cut m) rfl (S.old he m hg hm l o hl e), S.tb.wd (fun a o e => (ite_some e).elim (fun e => .inr (by cases e; exact ⟨fun _ z => (nomatch z), fun _ z => (nomatch z)⟩)) .inl) (fun a o e => .inl e) (fun a o e => .inl e)⟩, Wd.addF_at⟩
    · have e : (if a = q then _ else W.fz a) = some u := e
      by_cases y : a = q
      · rw [if_pos y] at e; cases e
        rw [y]; exact .inl h
      · rw [if_neg y] at e
        exact S.fz a u e
    · obtain ⟨q1, q2, q3⟩ := S.fr a u e
      refine ⟨q1, ?_, q3⟩
      show (if a = q then _ else W.fz a) = none
      rw [if_neg (fun y => by rw [y, h] at q1; cases q1; exact (S.tb.fr _ _ e).2 _ rfl)]
      exact q2
theorem rlt_at : ∀ {kvs : List (List Key × V)} {es : List (GKey × D)} {i : Nat} {k : GKey} {d : D}, RlT X.K M W kvs es → es[i]? = some (k, d) → ∃ k' v, k = .tp k' ∧ kvs[i]? = some (k'.map Ky.k, v) ∧ Rl X.K M W v d
  | _, _, 0, _, _, .cons a _, e => by simp at e; obtain ⟨rfl, rfl⟩ := e; exact ⟨_, _, rfl, rfl, a⟩
  | _, _, i + 1, _, _, .cons _ b, e => by
    obtain ⟨k', v, h0, h1, h2⟩ := rlt_at (i := i) b (by simpa using e)
    exact ⟨k', v, h0, by simpa using h1, h2⟩
  | _, _, _, _, _, .nil, e => by simp at e
theorem kys_rl {W : Wd} : ∀ ks : List Ky, RlL X.K M W ((ks.map Ky.k).map kV) (ks.map Ky.d)
  | [] => .nil
  | k :: ks => .cons (ky_rl k) (kys_rl ks)
theorem itr_keysT {a : Addr} {d : D} {od : Obj} {kvs : List (List Key × V)} {es : List (GKey × D)} {H1 : Hp} (r : RlT X.K M W kvs es) (h : DLk X M g W H1 s d a (.frz od (.dT kvs))) : ItR X M g W H1 s (lockOf d) (Itkt a od kvs) (es.map (·.1.d)) := by
  obtain ⟨W2, a1, a2, a3, a4⟩ := h
  refine ⟨W2, a1, a2, fun W3 H3 s3 i L S3 => ⟨fun hi => ⟨a3 W3 H3 s3 L S3, ?_⟩, fun d0 hd => ?_⟩, a4⟩
  · rw [r.length]; simpa using hi
  · rw [List.getElem?_map] at hd
    obtain ⟨⟨k, dv⟩, h1, rfl⟩ := Option.map_eq_some_iff.mp hd
    obtain ⟨k', v, rfl, h2, h3⟩ := rlt_at r h1
    refine ⟨⟨a3 W3 H3 s3 L S3, (List.getElem?_eq_some_iff.mp h2).1⟩, fun x H' ⟨y1, k2, v2, q, y2, y3, y4⟩ => ?_⟩
    subst y1
    rw [h2] at y2
    cases y2
    subst y3
    obtain ⟨W4, L4, S4, hz⟩ := S3.asF y4
    exact ⟨W4, L4, S4, .tup hz (kys_rl k')⟩
theorem itr_vals {a : Addr} {d : D} {od : Obj} {kvs : List (Key × V)} {es : List (GKey × D)} {H1 : Hp} (r : RlK X.K M W kvs es) (h : DLk X M g W H1 s d a (.frz od (.dK kvs))) : ItR X M g W H1 s (lockOf d) (Itd a od kvs) (es.map (·.2)) := by
  obtain ⟨W2, a1, a2, a3, a4⟩ := h
  refine ⟨W2, a1, a2, fun W3 H3 s3 i L S3 => ⟨fun hi => ⟨a3 W3 H3 s3 L S3, ?_⟩, fun d0 hd => ?_⟩, a4⟩
  · rw [r.length]; simpa using hi
  · rw [List.getElem?_map] at hd
    obtain ⟨⟨k, dv⟩, h1, rfl⟩ := Option.map_eq_some_iff.mp hd
    obtain ⟨k', v, rfl, h2, h3⟩ := rlk_at r h1
    refine ⟨⟨a3 W3 H3 s3 L S3, (List.getElem?_eq_some_iff.mp h2).1⟩, fun x H' ⟨y1, k2, y2⟩ => ?_⟩
    subst y1
    rw [h2] at y2
    cases y2
    exact ⟨W3, .refl, S3, L.rl (a1.rl h3)⟩
theorem itr_items {a : Addr} {d : D} {od : Obj} {kvs : List (Key × V)} {es : List (GKey × D)} {H1 : Hp} (r : RlK X.K M W kvs es) (h : DLk X M g W H1 s d a (.frz od (.dK kvs))) : ItR X M g W H1 s (lockOf d) (Iti a od kvs) (es.map fun p => .tup [p.1.d, p.2]) := by
  obtain ⟨W2, a1, a2, a3, a4⟩ := h
  refine ⟨W2, a1, a2, fun W3 H3 s3 i L S3 => ⟨fun hi => ⟨a3 W3 H3 s3 L S3, ?_⟩, fun d0 hd => ?_⟩, a4⟩
  · rw [r.length]; simpa using hi
  · rw [List.getElem?_map] at hd
    obtain ⟨⟨k, dv⟩, h1, rfl⟩ := Option.map_eq_some_iff.mp hd
    obtain ⟨k', v, rfl, h2, h3⟩ := rlk_at r h1
    refine ⟨⟨a3 W3 H3 s3 L S3, (List.getElem?_eq_some_iff.mp h2).1⟩, fun x H' ⟨T, k2, v2, y2, y3, y4, y5⟩ => ?_⟩
    rw [h2] at y2
    cases y2
    subst y3 y5
    have hz := S3.fz_none y4
    exact ⟨_, Wd.addF_le hz, S3.addF y4, .tup Wd.addF_at (.cons ((ky_rl k')) (.cons ((L.rl (a1.rl h3)).mono (Wd.addF_le hz)) .nil))⟩
theorem PostI.mono {R' : It → Hp → Prop} {E : WS} {W W' : Wd} {r : R (List D × List Nat)} (P : PostI X M g E W R' r) (L : Le W W') : PostI X M g E W' R' r := by
  cases r with
  | ok a s => exact fun W1 H1 J L1 h => P W1 H1 J (L.trans L1) h
  | ex x s => exact fun W2 H2 c d L2 S R => P W2 H2 c d (L.trans L2) S R
  | no => exact P
theorem PostI.bind {f : D → Sto → R (List D × List Nat)} {R' : It → Hp → Prop} {E : WS} {r : R D} (P : PostI X M g E W R' (r.bind f)) :
    Post X.K M g (Rl X.K M) E W (fun b H1 => ∃ a s1 W1, Le W W1 ∧ StR X.K M W1 H1 g s1 ∧ Rl X.K M W1 b a ∧ PostI X M g E W1 R' (f a s1)) r := by
  cases r with
  | ok a s => exact fun W' H' b L S r => ⟨a, s, W', L, S, r, PostI.mono (show PostI X M g E W R' (f a s) from P) L⟩
  | ex x s => exact P
  | no => exact P.elim
theorem PI.or {tg e : Expr} {t1 t2 : TI} (h1 : PI X tg e t1) (h2 : PI X tg e t2) : PI X tg e (fun σ H R' => t1 σ H R' ∨ t2 σ H R') := ⟨fun pins s σ H R' I q => q.elim (h1.run pins s σ H R' I) (h2.run pins s σ H R' I)⟩
theorem pi_it {tg e : Expr} {fe : FE} (he : PE X e (TF X.K M g fe E)) : PI X tg e (TI' X M g (fIt fe) E) := by
  refine piImp (PI.or (PI.or (pi_list he) (pi_tup he)) (PI.or (pi_keys (pe_lockV he)) (pi_str he))) fun σ H R' ⟨W, env, s, en, S, P⟩ => ?_
  cases hf : fe env s with
  | no =>
    unfold fIt at P
    rw [hf] at P
    exact P.elim
  | ex x s1 =>
    unfold fIt at P
    rw [hf] at P
    exact .inl (.inl ⟨W, env, s, en, S, by rw [hf]; exact P⟩)
  | ok d s1 =>
    unfold fIt at P
    rw [hf] at P
    simp only [R.bind_ok] at P
    unfold itemsI at P
    split at P
    · rename_i ds hk
      cases hd : dctOf d s1 with
      | none =>
        rw [hd] at hk
        dsimp only at hk
        cases hsq : seqOf d s1 with
        | some ds' =>
          rw [hsq] at hk
          cases hk
          by_cases ht : tupD d = true
          · refine .inl (.inr ⟨W, env, s, en, S, by
              rw [hf]
              intro W' H' x L S' rx
              obtain ⟨a, vs, ex, h⟩ := itr_seq rx S' hsq
              rcases h with ⟨h0, h1, h2⟩ | ⟨h0, h1, h2⟩
              · rw [ht] at h0; cases h0
              · exact ⟨a, ex, ⟨vs, h1⟩, P W' H' _ L h2.r⟩⟩)
          · refine .inl (.inl ⟨W, env, s, en, S, by
              rw [hf]
              intro W' H' x L S' rx
              obtain ⟨a, vs, ex, h⟩ := itr_seq rx S' hsq
              rcases h with ⟨h0, h1, h2⟩ | ⟨h0, h1, h2⟩
              · exact ⟨a, ex, ⟨vs, h1⟩, P W' H' _ L h2.r⟩
              · exact absurd h0 ht⟩)
        | none =>
          rw [hsq] at hk
          cases d with
          | str cs =>
            cases hk
            refine .inr (.inr ⟨W, env, s, en, S, by
              rw [hf]
              intro W' H' x L S' rx
              cases rx
              refine ⟨_, rfl, P W' H' _ L ⟨W', .refl, S', fun W3 H3 s3 i L3 S3 => ⟨fun hi => ?_, fun d0 hd0 => ?_⟩, fun W3 H3 s3 L3 S3 => ⟨W3, H3, .refl, L3.lc, .refl, S3⟩⟩⟩
              · show (cOf cs).cps.size ≤ i
                simpa [cOf] using hi
              · rw [List.getElem?_map] at hd0
                obtain ⟨c, h1, rfl⟩ := Option.map_eq_some_iff.mp hd0
                have h2 : (cOf cs).cps[i]? = some c := by simpa [cOf] using h1
                refine ⟨?_, fun x H' ⟨y1, c2, y2, y3⟩ => ?_⟩
                · show i < (cOf cs).cps.size
                  have := (List.getElem?_eq_some_iff.mp h1).1
                  simpa [cOf] using this
                · subst y1 y3
                  rw [h2] at y2
                  cases y2
                  exact ⟨W3, .refl, S3, .str (cs := [c])⟩⟩)
          | _ => cases hk
      | some p =>
        obtain ⟨t, es⟩ := p
        rw [hd] at hk
        cases t with
        | true =>
          cases hk
          refine .inr (.inl ⟨W, env, s, en, S, by
            rw [hf]
            intro W' H' x L S' rx
            obtain ⟨a, ho, ex, ro, h⟩ := dct_lock (X := X) rx S' hd
            cases ro with
            | @dt kvs _ rk =>
              rcases h with ⟨od, h1, h2⟩ | ⟨h1, h2⟩
              · exact .inl ⟨a, od, ex, .inr ⟨kvs, h1, P W' H' _ L (itr_keysT rk h2)⟩⟩
              · exact .inr ⟨a, _, ex, h1, rfl, fun od hn => ⟨a, od, ex, .inr ⟨kvs, upd_same, P W' _ _ L (itr_keysT rk (h2 od hn))⟩⟩⟩⟩)
        | false =>
          cases hk
          refine .inr (.inl ⟨W, env, s, en, S, by
            rw [hf]
            intro W' H' x L S' rx
            obtain ⟨a, ho, ex, ro, h⟩ := dct_lock (X := X) rx S' hd
            cases ro with
            | @dk kvs _ rk =>
              rcases h with ⟨od, h1, h2⟩ | ⟨h1, h2⟩
              · exact .inl ⟨a, od, ex, .inl ⟨kvs, h1, P W' H' _ L (itr_keys rk h2)⟩⟩
              · exact .inr ⟨a, _, ex, h1, rfl, fun od hn => ⟨a, od, ex, .inl ⟨kvs, upd_same, P W' _ _ L (itr_keys rk (h2 od hn))⟩⟩⟩⟩)
    · exact P.elim
def fItl (fe : FE) : FI := fun env s => (fe env s).bind fun d s => match seqOf d s with
  | some ds => .ok (ds, lockOf d) s
  | none => .no
/-- a list, a tuple is walked -/
theorem pi_itl {tg e : Expr} {fe : FE} (he : PE X e (TF X.K M g fe E)) : PI X tg e (TIS' X M g (fItl fe) E) := by
  refine piImp (PI.or (pi_list he) (pi_tup he)) fun σ H R' ⟨W, env, s, en, S, P⟩ => ?_
  cases hf : fe env s with
  | no =>
    unfold fItl at P
    rw [hf] at P
    exact P.elim
  | ex x s1 =>
    unfold fItl at P
    rw [hf] at P
    exact .inl ⟨W, env, s, en, S, by rw [hf]; exact P⟩
  | ok d s1 =>
    unfold fItl at P
    rw [hf] at P
    simp only [R.bind_ok] at P
    cases hsq : seqOf d s1 with
    | none => rw [hsq] at P; exact P.elim
    | some ds =>
      rw [hsq] at P
      by_cases ht : tupD d = true
      · refine .inr ⟨W, env, s, en, S, by
          rw [hf]
          intro W' H' x L S' rx
          obtain ⟨a, vs, ex, h⟩ := itr_seq rx S' hsq
          rcases h with ⟨h0, h1, h2⟩ | ⟨h0, h1, h2⟩
          · rw [ht] at h0; cases h0
          · exact ⟨a, ex, ⟨vs, h1⟩, P W' H' _ L h2⟩⟩
      · refine .inl ⟨W, env, s, en, S, by
          rw [hf]
          intro W' H' x L S' rx
          obtain ⟨a, vs, ex, h⟩ := itr_seq rx S' hsq
          rcases h with ⟨h0, h1, h2⟩ | ⟨h0, h1, h2⟩
          · exact ⟨a, ex, ⟨vs, h1⟩, P W' H' _ L h2⟩
          · exact absurd h0 ht⟩
end
end Fn

set_option Elab.async false
set_option linter.all false
set_option maxRecDepth 100000
set_option maxHeartbeats 2000000
namespace Fn
open PySem L2 PySem.Spec PyProof.Rows
section
variable {X : Cx} {M : Nm} {g : Nat → Prop} {W : Wd} {H : Hp} {s : Sto} {E : WX} {tg e e2 a b : Expr} {fe fa fb : FE} {p pos apos tpos : Pos} {elts : List Expr} {kk : Nat}
abbrev FA := Env → Sto → R (List D)
def fA1 (fa : FE) : FA := fun env s => (fa env s).bind fun d s => .ok [d] s
def fA2 (fa fb : FE) : FA := fun env s => (fa env s).bind fun d s => (fb env s).bind fun e s => .ok [d, e] s
theorem taBind {f : FA} {h : List D → Sto → R D} {σ : L2.St} {Q : VK} {K : PySem.W.Frag} (q : TF K M g (fun env s => (f env s).bind fun ds s => h ds s) E σ H Q) :
    TA' K M g f E σ H (fun xs H1 => ∃ W env s ds, EnvR K M W σ env ∧ StR K M W H1 g s ∧ RlL K M W xs ds ∧ Post K M g (Rl K M) (wE E σ) W Q (h ds s)) := by
  obtain ⟨W, env, s, e, S, P⟩ := q
  exact ⟨W, env, s, e, S, P.bind.imp fun x H1 ⟨d, s1, W1, L, S1, r1, P1⟩ => ⟨W1, env, s1, d, e.mono L, S1, r1, P1⟩⟩
theorem PA.imp {es : List Expr} {t t1 : TA} (h : PA X es t) (i : ∀ σ H Q, t1 σ H Q → t σ H Q) : PA X es t1 := ⟨fun pos pins s σ H Q I q => h.run pos pins s σ H Q I (i _ _ _ q)⟩
theorem a_nil : PA X [] (TA' X.K M g (fun _ s => .ok [] s) E) := PA.imp pa_nil fun σ H Q ⟨W, env, s, e, S, P⟩ => P W H [] .refl S .nil
theorem a_cons {es : List Expr} {f : FA} (hs : isStar e = false) (he : PE X e (TF X.K M g fe E)) (hr : PA X es (TA' X.K M g f E)) : PA X (e :: es) (TA' X.K M g (fun env s => (fe env s).bind fun d s => (f env s).bind fun ds s => .ok (d :: ds) s) E) := by
  refine PA.imp (pa_cons he hr (star_cons hs)) fun σ H Q ⟨W, env, s, e, S, P⟩ => ⟨W, env, s, e, S, ?_⟩
  refine P.bind.imp fun x H1 ⟨d, s1, W1, L, S1, r1, P1⟩ => ⟨W1, env, s1, e.mono L, S1, ?_⟩
  refine P1.bind.imp fun xs H2 ⟨ds, s2, W2, L2, S2, r2, P2⟩ => P2 W2 H2 _ .refl S2 (.cons (r1.mono L2) r2)
theorem c_one (hs : isStar a = false) (ha : PE X a (TF X.K M g fa E)) : PA X [a] (tCons (TF X.K M g fa E) tNil) := pa_cons ha pa_nil (star_cons hs)
theorem c_two (hs : isStar a = false) (hs2 : isStar b = false) (ha : PE X a (TF X.K M g fa E)) (hb : PE X b (TF X.K M g fb E)) : PA X [a, b] (tCons (TF X.K M g fa E) (tCons (TF X.K M g fb E) tNil)) := pa_cons ha (c_one hs2 hb) (star_cons hs)
theorem PostI.bindA {f : List D → Sto → R (List D × List Nat)} {R' : It → Hp → Prop} {E : WS} {r : R (List D)} (P : PostI X M g E W R' (r.bind f)) :
    Post X.K M g (RlL X.K M) E W (fun b H1 => ∃ a s1 W1, Le W W1 ∧ StR X.K M W1 H1 g s1 ∧ RlL X.K M W1 b a ∧ PostI X M g E W1 R' (f a s1)) r := by
  cases r with
  | ok a s => exact fun W' H' b L S r => ⟨a, s, W', L, S, r, PostI.mono (show PostI X M g E W R' (f a s) from P) L⟩
  | ex x s => exact P
  | no => exact P.elim
/-- no lock -/
theorem itr_free {J : It} {ds : List D} (S : StR X.K M W H g s) (h : ∀ W3 H3 s3 i, Lw W W3 → StR X.K M W3 H3 g s3 → (ds.length ≤ i → J.stop i H3) ∧ ∀ d, ds[i]? = some d → J.go i H3 ∧ ∀ x H', J.yld i H3 x H' → ∃ W4, Le W3 W4 ∧ StR X.K M W4 H' g s3 ∧ Rl X.K M W4 x d) : ItR X M g W H s [] J ds :=
  ⟨W, .refl, S, h, fun W3 H3 s3 L S3 => ⟨W3, H3, .refl, L.lc, .refl, S3⟩⟩
theorem itr_rng {lo : Int} {n : Nat} (S : StR X.K M W H g s) : ItR X M g W H s [] (Itr lo n) ((List.range n).map fun (k : Nat) => .int (lo + (k : Int))) := by
  refine itr_free S fun W3 H3 s3 i L3 S3 => ⟨fun hi => ?_, fun d hd => ?_⟩
  · show n ≤ i
    simpa using hi
  · rw [List.getElem?_map] at hd
    obtain ⟨k, h1, rfl⟩ := Option.map_eq_some_iff.mp hd
    obtain ⟨h2, h3⟩ := List.getElem?_eq_some_iff.mp h1
    have hk : k = i := by simpa using h3.symm
    subst hk
    refine ⟨show k < n by simpa using h2, fun x H' ⟨y1, y2⟩ => ?_⟩
    subst y1 y2
    exact ⟨W3, .refl, S3, .int⟩
def hR1 : D → Sto → R (List D × List Nat) := fun x s => match x with
  | .int i => if -(2 ^ 62) ≤ i ∧ i < 2 ^ 62 then .ok ((List.range i.toNat).map fun (k : Nat) => .int (k : Int), []) s else .no
  | _ => .no
def hR2 : D → D → Sto → R (List D × List Nat) := fun x y s => match x, y with
  | .int i, .int j => if -(2 ^ 62) ≤ i ∧ i < 2 ^ 62 ∧ -(2 ^ 62) ≤ j ∧ j < 2 ^ 62 then .ok ((List.range (j - i).toNat).map fun (k : Nat) => .int (i + (k : Int)), []) s else .no
  | _, _ => .no
theorem pi_rng1 (hg : Gl X "range") (hm : X.mg "range" = none) (hs : isStar a = false) (ha : PE X a (TF X.K M g fa E)) :
    PI X tg (.Call (.Name "range" p) [a] [] pos) (TI' X M g (fun env s => (fa env s).bind hR1) E) := by
  refine piImp (pi_range1 hg hm (c_one hs ha) (star_cons hs)) fun σ H R' ⟨W, env, s, en, S, P⟩ => ⟨W, env, s, en, S, (PostI.bind P).imp fun v H1 ⟨d, s1, W1, L, S1, rv, P1⟩ => ?_⟩
  unfold hR1 at P1
  split at P1
  · cases rv
    split at P1
    · rename_i h
      refine ⟨_, rfl, h.1, h.2, P1 W1 H1 _ .refl ?_⟩
      rename_i i _
      have := itr_rng (X := X) (M := M) (g := g) (lo := 0) (n := i.toNat) S1
      simp only [Int.zero_add] at this
      exact this
    · exact P1.elim
  · exact P1.elim
theorem pi_rng2 (hg : Gl X "range") (hm : X.mg "range" = none) (hs : isStar a = false) (hs2 : isStar b = false) (ha : PE X a (TF X.K M g fa E)) (hb : PE X b (TF X.K M g fb E)) :
    PI X tg (.Call (.Name "range" p) [a, b] [] pos) (TI' X M g (fun env s => (fa env s).bind fun x s => (fb env s).bind fun y s => hR2 x y s) E) := by
  refine piImp (pi_range2 hg hm (c_two hs hs2 ha hb) (by rw [star_cons hs, star_cons hs2]; rfl) (star_cons hs2)) fun σ H R' ⟨W, env, s, en, S, P⟩ => ⟨W, env, s, en, S, (PostI.bind P).imp fun v H1 ⟨d, s1, W1, L, S1, rv, P1⟩ => ⟨W1, env, s1, en.mono L, S1, (PostI.bind P1).imp fun u H2 ⟨e, s2, W2, L2, S2, ru, P2⟩ => ?_⟩⟩
  unfold hR2 at P2
  split at P2
  · cases rv
    cases ru
    split at P2
    · rename_i h
      exact ⟨_, _, rfl, h, P2 W2 H2 _ .refl (itr_rng S2)⟩
    · exact P2.elim
  · exact P2.elim
def hEn : D → Sto → R (List D × List Nat) := fun d s => match lstOf d s with
  | some ds => .ok (ds.zipIdx.map fun p => .tup [.int (p.2 : Int), p.1], lockOf d) s
  | none => .no
theorem lst_seq {d : D} {ds : List D} (h : lstOf d s = some ds) : seqOf d s = some ds ∧ tupD d = false := by
  cases d <;> first | exact ⟨h, rfl⟩ | (cases h)
theorem PostIS.mono {R' : It → Hp → Prop} {E : WS} {W W' : Wd} {r : R (List D × List Nat)} (P : PostIS X M g E W R' r) (L : Le W W') : PostIS X M g E W' R' r := by
  cases r with
  | ok a s => exact fun W1 H1 J L1 h => P W1 H1 J (L.trans L1) h
  | ex x s => exact fun W2 H2 c d L2 S R => P W2 H2 c d (L.trans L2) S R
  | no => exact P
theorem PostIS.bind {f : D → Sto → R (List D × List Nat)} {R' : It → Hp → Prop} {E : WS} {r : R D} (P : PostIS X M g E W R' (r.bind f)) :
    Post X.K M g (Rl X.K M) E W (fun b H1 => ∃ a s1 W1, Le W W1 ∧ StR X.K M W1 H1 g s1 ∧ Rl X.K M W1 b a ∧ PostIS X M g E W1 R' (f a s1)) r := by
  cases r with
  | ok a s => exact fun W' H' b L S r => ⟨a, s, W', L, S, r, PostIS.mono (show PostIS X M g E W R' (f a s) from P) L⟩
  | ex x s => exact P
  | no => exact P.elim
theorem pi_enS (hg : Gl X "enumerate") (hm : X.mg "enumerate" = none) (hs : isStar a = false) (ha : PE X a (TF X.K M g fa E)) :
    PI X (.Tuple elts kk tpos) (.Call (.Name "enumerate" p) [a] [] pos) (TIS' X M g (fun env s => (fa env s).bind hEn) E) := by
  refine piImp (pi_enum hg hm (c_one hs ha) (star_cons hs)) fun σ H R' ⟨W, env, s, en, S, P⟩ => ⟨W, env, s, en, S, (PostIS.bind P).imp fun v H1 ⟨d, s1, W1, L, S1, rv, P1⟩ => ?_⟩
  unfold hEn at P1
  split at P1
  · rename_i ds hl
    obtain ⟨h1, h2⟩ := lst_seq hl
    obtain ⟨a, vs, rfl, rl, hlk, hst⟩ := sq_stay rv S1 h1
    obtain ⟨W2, a1, a2, a3, a4, a5⟩ := lock_ok (lockOf d) S1 hlk
    have a3 := lc_same S1 a2 a3
    rcases hst with ⟨_, hst⟩ | ⟨hk, _⟩
    · have h3 : ∀ {W3 H3 s3}, Lw W2 W3 → StR X.K M W3 H3 g s3 → SqL X.K H3 a vs := fun {W3 H3 s3} L S3 => hst W3 H3 s3 (fun a o h => L.fz a o (by rw [a1.fz]; exact h)) S3 fun l hl => by
        obtain ⟨vs, q1, q2⟩ := a3 l hl
        exact ⟨vs, by rw [L.lc]; exact q1, q2⟩
      refine ⟨a, vs, rfl, h3 .refl a2, P1 W1 H1 _ .refl ⟨W2, a1, a2, fun W3 H3 s3 i L S3 => ⟨fun hi => ⟨vs, h3 L S3, ?_⟩, fun d0 hd => ?_⟩, fun W3 H3 s3 L S3 => ?_⟩⟩
      · rw [rl.length]; simpa using hi
      · rw [List.getElem?_map] at hd
        obtain ⟨⟨d1, n⟩, q1, rfl⟩ := Option.map_eq_some_iff.mp hd
        rw [List.getElem?_zipIdx] at q1
        obtain ⟨d2, q2, q3⟩ := Option.map_eq_some_iff.mp q1
        cases q3
        obtain ⟨x, q3, q4⟩ := rl.get q2
        refine ⟨⟨vs, x, h3 L S3, q3⟩, fun v H' ⟨T, y, e1, e2, e3, e4⟩ => ?_⟩
        have := e4 vs (h3 L S3)
        rw [q3] at this
        cases this
        subst e1 e3
        have hz := S3.fz_none e2
        refine ⟨_, Wd.addF_le hz, S3.addF e2, .tup Wd.addF_at (.cons ?_ (.cons ((L.rl (a1.rl q4)).mono (Wd.addF_le hz)) .nil))⟩
        rw [Nat.zero_add]
        exact .int
      · exact a5 W3 H3 s3 L S3
    · rw [h2] at hk; cases hk
  · exact P1.elim
theorem pi_en (hg : Gl X "enumerate") (hm : X.mg "enumerate" = none) (hs : isStar a = false) (ha : PE X a (TF X.K M g fa E)) :
    PI X (.Tuple elts kk tpos) (.Call (.Name "enumerate" p) [a] [] pos) (TI' X M g (fun env s => (fa env s).bind hEn) E) := piS (pi_enS hg hm hs ha)
def hZip : D → D → Sto → R (List D × List Nat) := fun x y s => match seqOf x s, seqOf y s with
  | some ds, some es => if tupD x = tupD y then .ok ((ds.zip es).map fun p => .tup [p.1, p.2], lockOf x ++ lockOf y) s else .no
  | _, _ => .no
theorem pi_zp (hg : Gl X "zip") (hm : X.mg "zip" = none) (hs : isStar a = false) (hs2 : isStar b = false) (ha : PE X a (TF X.K M g fa E)) (hb : PE X b (TF X.K M g fb E)) :
    PI X (.Tuple elts kk tpos) (.Call (.Name "zip" p) [a, b] [] pos) (TI' X M g (fun env s => (fa env s).bind fun x s => (fb env s).bind fun y s => hZip x y s) E) := by
  refine piImp (RZ.pi_zipA hg hm (c_two hs hs2 ha hb) (star_cons hs) (star_back (by simp [hs2]))) fun σ H R' ⟨W, env, s, en, S, P⟩ => ⟨W, env, s, en, S, (PostI.bind P).imp fun v H1 ⟨d, s1, W1, L, S1, rv, P1⟩ => ⟨W1, env, s1, en.mono L, S1, (PostI.bind P1).imp fun u H2 ⟨e, s2, W2, L2, S2, ru, P2⟩ => ?_⟩⟩
  have rv := rv.mono L2
  unfold hZip at P2
  split at P2
  · rename_i ds es h1 h2
    split at P2
    · rename_i hk
      obtain ⟨a, vs, rfl, rl, hlk, hst⟩ := sq_stay rv S2 h1
      obtain ⟨b, us, rfl, rl', hlk', hst'⟩ := sq_stay ru S2 h2
      obtain ⟨W5, a1, a2, a3, a4, a5⟩ := lock_ok (lockOf d ++ lockOf e) S2 fun l hl => (List.mem_append.mp hl).elim (hlk l) (hlk' l)
      have a3 := lc_same S2 a2 a3
      have un : ∀ W3 H3 s3, Lw W5 W3 → StR X.K M W3 H3 g s3 → ∃ W4 H4, Sm W3 W4 ∧ W4.lc = W2.lc ∧ Unl X H3 H4 ∧ StR X.K M W4 H4 g (unlockAll (lockAll (lockOf d ++ lockOf e) s2).1 s3) := fun W3 H3 s3 L S3 => by
        obtain ⟨W4, b1, b2, b3⟩ := a5 W3 H3 s3 L S3
        exact ⟨W4, H3, b1, b2, .refl, b3⟩
      have fz3 : ∀ {W3}, Lw W5 W3 → ∀ a o, W2.fz a = some o → W3.fz a = some o := fun L a o h => L.fz a o (by rw [a1.fz]; exact h)
      have lc3 : ∀ {W3}, Lw W5 W3 → ∀ l ∈ lockOf d ++ lockOf e, ∃ vs, W3.lc (W2.bt l) = some (.lst vs) ∧ H2 (W2.bt l) = some (.lst vs) := fun L l hl => by
        obtain ⟨vs, q1, q2⟩ := a3 l hl
        exact ⟨vs, by rw [L.lc]; exact q1, q2⟩
      have pair : ∀ {W3 H3 s3 i} {d0 : D} {T : Addr}, Lw W5 W3 → StR X.K M W3 H3 g s3 → ((ds.zip es).map fun p => D.tup [p.1, p.2])[i]? = some d0 → ∃ x y, vs[i]? = some x ∧ us[i]? = some y ∧ (H3 T = none → ∃ W4, Le W3 W4 ∧ StR X.K M W4 (upd H3 T (.tup [x, y])) g s3 ∧ Rl X.K M W4 (.ref T) d0) := fun {W3 H3 s3 i d0 T} L S3 hd => by
        rw [List.getElem?_map] at hd
        obtain ⟨⟨d1, d2⟩, q1, rfl⟩ := Option.map_eq_some_iff.mp hd
        obtain ⟨q2, q3⟩ := List.getElem?_zip_eq_some.mp q1
        obtain ⟨x, q4, q5⟩ := rl.get q2
        obtain ⟨y, q6, q7⟩ := rl'.get q3
        refine ⟨x, y, q4, q6, fun hT => ?_⟩
        have hz := S3.fz_none hT
        exact ⟨_, Wd.addF_le hz, S3.addF hT, .tup Wd.addF_at (.cons ((L.rl (a1.rl q5)).mono (Wd.addF_le hz)) (.cons ((L.rl (a1.rl q7)).mono (Wd.addF_le hz)) .nil))⟩
      have stop : ∀ {i : Nat}, ((ds.zip es).map fun p => D.tup [p.1, p.2]).length ≤ i → vs.length ≤ i ∨ us.length ≤ i := fun {i} hi => by
        rw [List.length_map, List.length_zip] at hi
        rw [rl.length, rl'.length]
        omega
      rcases hst with ⟨k1, hst⟩ | ⟨k1, hst⟩
      · rcases hst' with ⟨k2, hst'⟩ | ⟨k2, hst'⟩
        · have h3 : ∀ {W3 H3 s3}, Lw W5 W3 → StR X.K M W3 H3 g s3 → SqL X.K H3 a vs ∧ SqL X.K H3 b us := fun {W3 H3 s3} L S3 => ⟨hst W3 H3 s3 (fz3 L) S3 fun l hl => lc3 L l (List.mem_append_left _ hl), hst' W3 H3 s3 (fz3 L) S3 fun l hl => lc3 L l (List.mem_append_right _ hl)⟩
          have h0 := h3 .refl a2
          refine ⟨a, b, vs, us, rfl, .inl ⟨h0.1, h0.2, P2 W2 H2 _ .refl ⟨W5, a1, a2, fun W3 H3 s3 i L S3 => ⟨fun hi => ⟨vs, us, (h3 L S3).1, (h3 L S3).2, stop hi⟩, fun d0 hd => ?_⟩, un⟩⟩⟩
          obtain ⟨x, y, q4, q6, _⟩ := pair (T := 0) L S3 hd
          refine ⟨⟨vs, us, x, y, (h3 L S3).1, (h3 L S3).2, q4, q6⟩, fun v H' ⟨T, x', y', e1, e2, e3, e4, e5⟩ => ?_⟩
          have z1 := e4 vs (h3 L S3).1
          have z2 := e5 us (h3 L S3).2
          obtain ⟨x2, y2, q8, q9, q10⟩ := pair (T := T) L S3 hd
          rw [q8] at z1
          rw [q9] at z2
          cases z1
          cases z2
          subst e1 e3
          exact q10 e2
        · rw [k1, k2] at hk; cases hk
      · rcases hst' with ⟨k2, hst'⟩ | ⟨k2, hst'⟩
        · rw [k1, k2] at hk; cases hk
        · have h3 : ∀ {W3 H3 s3}, Lw W5 W3 → StR X.K M W3 H3 g s3 → SqT X.K H3 a vs ∧ SqT X.K H3 b us := fun {W3 H3 s3} L S3 => ⟨hst W3 H3 s3 (fz3 L) S3, hst' W3 H3 s3 (fz3 L) S3⟩
          have h0 := h3 .refl a2
          refine ⟨a, b, vs, us, rfl, .inr ⟨h0.1, h0.2, P2 W2 H2 _ .refl ⟨W5, a1, a2, fun W3 H3 s3 i L S3 => ⟨fun hi => ⟨vs, us, (h3 L S3).1, (h3 L S3).2, stop hi⟩, fun d0 hd => ?_⟩, un⟩⟩⟩
          obtain ⟨x, y, q4, q6, _⟩ := pair (T := 0) L S3 hd
          refine ⟨⟨vs, us, x, y, (h3 L S3).1, (h3 L S3).2, q4, q6⟩, fun v H' ⟨T, x', y', e1, e2, e3, e4, e5⟩ => ?_⟩
          have z1 := e4 vs (h3 L S3).1
          have z2 := e5 us (h3 L S3).2
          obtain ⟨x2, y2, q8, q9, q10⟩ := pair (T := T) L S3 hd
          rw [q8] at z1
          rw [q9] at z2
          cases z1
          cases z2
          subst e1 e3
          exact q10 e2
    · exact P2.elim
  · exact P2.elim
def hIts : D → Sto → R (List D × List Nat) := fun d s => match dctOf d s with
  | some (false, kvs) => .ok (kvs.map fun p => .tup [p.1.d, p.2], lockOf d) s
  | _ => .no
def hVls : D → Sto → R (List D × List Nat) := fun d s => match dctOf d s with
  | some (false, kvs) => .ok (kvs.map (·.2), lockOf d) s
  | _ => .no
theorem pi_its (he : PE X e (TF X.K M g fe E)) (hbase : attributeBase e "items" X.env (eval e X.env) = eval e X.env) (hline : (apos.endLine == pos.line) = true) :
    PI X (.Tuple elts kk tpos) (.Call (.Attribute e "items" apos) [] [] pos) (TI' X M g (fun env s => (fe env s).bind hIts) E) := by
  refine piImp (pi_items (pe_lockV he) hbase hline) fun σ H R' ⟨W, env, s, en, S, P⟩ => ⟨W, env, s, en, S, (PostI.bind P).imp fun v H1 ⟨d, s1, W1, L, S1, rv, P1⟩ => ?_⟩
  unfold hIts at P1
  split at P1
  · rename_i es hd
    obtain ⟨a, ho, ex, ro, h⟩ := dct_lock (X := X) rv S1 hd
    cases ro with
    | @dk kvs _ rk =>
      rcases h with ⟨od, h1, h2⟩ | ⟨h1, h2⟩
      · exact .inl ⟨a, od, kvs, ex, h1, P1 W1 H1 _ .refl (itr_items rk h2)⟩
      · exact .inr ⟨a, _, ex, h1, rfl, fun od hn => ⟨a, od, kvs, ex, upd_same, P1 W1 _ _ .refl (itr_items rk (h2 od hn))⟩⟩
  · exact P1.elim
theorem pi_vls (he : PE X e (TF X.K M g fe E)) (hbase : attributeBase e "values" X.env (eval e X.env) = eval e X.env) (hline : (apos.endLine == pos.line) = true) :
    PI X tg (.Call (.Attribute e "values" apos) [] [] pos) (TI' X M g (fun env s => (fe env s).bind hVls) E) := by
  refine piImp (pi_values (pe_lockV he) hbase hline) fun σ H R' ⟨W, env, s, en, S, P⟩ => ⟨W, env, s, en, S, (PostI.bind P).imp fun v H1 ⟨d, s1, W1, L, S1, rv, P1⟩ => ?_⟩
  unfold hVls at P1
  split at P1
  · rename_i es hd
    obtain ⟨a, ho, ex, ro, h⟩ := dct_lock (X := X) rv S1 hd
    cases ro with
    | @dk kvs _ rk =>
      rcases h with ⟨od, h1, h2⟩ | ⟨h1, h2⟩
      · exact .inl ⟨a, od, kvs, ex, h1, P1 W1 H1 _ .refl (itr_vals rk h2)⟩
      · exact .inr ⟨a, _, ex, h1, rfl, fun od hn => ⟨a, od, kvs, ex, upd_same, P1 W1 _ _ .refl (itr_vals rk (h2 od hn))⟩⟩
  · exact P1.elim
end
end Fn

set_option Elab.async false
set_option linter.all false
set_option maxRecDepth 100000
set_option maxHeartbeats 2000000
namespace Fn
open PySem L2 PySem.Spec PyProof.Rows
section
variable {X : Cx} {M : Nm} {g : Nat → Prop} {E : WX} {e a b c : Expr} {es : List Expr} {fe fa fb fc : FE} {p p2 pos apos tpos : Pos} {x : Str}
theorem s_var {C : Ctx} {i : Nat} (hN : X.N[i]? = some x) (hv : Vis X.env.scope x) (hd : (x == ("__debug__" : Str)) = false) (hcd : (x == ("__classdict__" : Str)) = false) : PE X (.Name x pos) (TF X.K M g (evE C (.var i)) E) := by
  refine PE.imp (pe_var hN hv hd hcd) fun σ H Q ⟨W, env, s, e, S, P⟩ => ?_
  have P : Post X.K M g (Rl X.K M) (wE E σ) W Q (match env[i]? with | some (some d) => .ok d s | _ => .no) := P
  split at P
  · rename_i d h
    obtain ⟨v, h1, h2⟩ := e.2 i d h
    exact ⟨v, h1, P.ok S h2⟩
  · exact P.elim
theorem s_con {v : V} {d : D} (h : PE X e (tC v)) (r : ∀ W, Rl X.K M W v d) : PE X e (TF X.K M g (fun _ s => .ok d s) E) := PE.imp h fun σ H Q ⟨W, env, s, e, S, P⟩ => Post.ok P S (r W)
/-- a constant -/
def cstOk : D → Const → Bool
  | .non, .none => true
  | .bl a, .bool b => a == b
  | .int i, .int j => decide (i = j)
  | .str cs, .str x => decide (x.cps.toList = cs)
  | _, _ => false
theorem s_cst {C : Ctx} {d : D} {k : Const} {j : Nat} (h : cstOk d k = true) : PE X (.Constant k j pos) (TF X.K M g (evE C (.cst d)) E) := by
  cases d <;> cases k <;> first | (cases h; done) | skip
  · exact s_con pe_non fun _ => .non
  · rename_i u v
    have h : (u == v) = true := h
    have := eq_of_beq h
    subst this
    exact s_con pe_bl fun _ => .bl
  · rename_i i j
    have := of_decide_eq_true h
    subst this
    exact s_con pe_int fun _ => .int
  · rename_i cs x
    have := of_decide_eq_true h
    subst this
    exact s_con (v := .str x) pe_str fun _ => by
      have : x = cOf x.cps.toList := by simp [cOf]
      rw [this]
      have q := Rl.str (K := X.K) (M := M) (W := by assumption) (cs := x.cps.toList)
      simpa [cOf] using q
def hNeg : D → Sto → R D := fun x s => match x with
  | .int i => .ok (.int (-i)) s
  | _ => .no
theorem s_neg {C : Ctx} {m : ME} (ha : PE X a (TF X.K M g (evE C m) E)) : PE X (.UnaryOp .USub a pos) (TF X.K M g (evE C (.neg m)) E) := by
  refine PE.imp (pe_un un_neg ha) fun σ H Q ⟨W, env, s, e, S, P⟩ => ⟨W, env, s, e, S, ?_⟩
  have P : Post X.K M g (Rl X.K M) (wE E σ) W Q ((evE C m env s).bind hNeg) := P
  refine P.bind.imp fun v H1 ⟨d, s1, W1, L, S1, r, P1⟩ => ?_
  unfold hNeg at P1
  split at P1
  · cases r
    exact ⟨_, rfl, P1.int S1⟩
  · exact P1.elim
def isNon : D → Bool
  | .non => true
  | _ => false
def ntNon : D → Bool
  | .non => false
  | _ => true
theorem rl_non {K : PySem.W.Frag} {W : Wd} {v : V} {d : D} (r : Rl K M W v d) : decide (v = .non) = isNon d := by cases r <;> first | rfl | simp [isNon, ntNon]
theorem rl_non2 {K : PySem.W.Frag} {W : Wd} {v : V} {d : D} (r : Rl K M W v d) : (!decide (v = .non)) = ntNon d := by cases r <;> first | rfl | simp [isNon, ntNon]
def hIsN : D → Sto → R D := fun x s => .ok (.bl (match x with | .non => true | _ => false)) s
def hNtN : D → Sto → R D := fun x s => .ok (.bl (match x with | .non => false | _ => true)) s
theorem s_isN {C : Ctx} {m : ME} {j : Nat} (ha : PE X a (TF X.K M g (evE C m) E)) : PE X (.Compare a [.Is] [.Constant .none j p] pos) (TF X.K M g (evE C (.isN m)) E) := by
  refine PE.imp (pe_cmp (pc_isN ha) (nomark rfl _)) fun σ H Q ⟨W, env, s, e, S, P⟩ => ⟨W, env, s, e, S, ?_⟩
  refine (Post.bind (r := evE C m env s) (f := hIsN) P).imp fun v H1 ⟨d, s1, W1, L, S1, r, P1⟩ => ?_
  show Q (.bl (decide (v = .non))) H1
  rw [rl_non r]
  exact P1.bl S1
theorem s_isntN {C : Ctx} {m : ME} {j : Nat} (ha : PE X a (TF X.K M g (evE C m) E)) : PE X (.Compare a [.IsNot] [.Constant .none j p] pos) (TF X.K M g (evE C (.isntN m)) E) := by
  refine PE.imp (pe_cmp (pc_notN ha) (nomark rfl _)) fun σ H Q ⟨W, env, s, e, S, P⟩ => ⟨W, env, s, e, S, ?_⟩
  refine (Post.bind (r := evE C m env s) (f := hNtN) P).imp fun v H1 ⟨d, s1, W1, L, S1, r, P1⟩ => ?_
  show Q (.bl (!decide (v = .non))) H1
  rw [rl_non2 r]
  exact P1.bl S1
/-- a test whose value is a bool -/
theorem tst_bl {K : PySem.W.Frag} {f : FE} {σ : L2.St} {H : Hp} {Q : Bool → Hp → Prop} (hb : ∀ env s d s', f env s = .ok d s' → ∃ k, d = .bl k) (q : TT' K M g (tst f) E σ H Q) : TF K M g f E σ H (fun x H' => ∃ c, x = .bl c ∧ Q c H') := by
  obtain ⟨W, env, s, e, S, P⟩ := q
  refine ⟨W, env, s, e, S, ?_⟩
  unfold tst at P
  cases h : f env s with
  | no => rw [h] at P; exact P.elim
  | ex x s1 => rw [h] at P; exact P
  | ok d s1 =>
    rw [h] at P
    obtain ⟨k, rfl⟩ := hb env s d s1 h
    intro W' H' v L S' r
    cases r
    exact ⟨k, rfl, P W' H' k L S' rfl⟩
theorem st_isN {C : Ctx} {m : ME} {j : Nat} (ha : PE X a (TF X.K M g (evE C m) E)) : PT X (.Compare a [.Is] [.Constant .none j p] pos) (TT' X.K M g (tst (evE C (.isN m))) E) := by
  refine PT.imp (pt_cmp (pc_isN ha) (nomark rfl _)) fun σ H Q q => ?_
  obtain ⟨W, env, s, e, S, P⟩ := tst_bl (f := evE C (.isN m)) (fun env s d s' h => by
    have h : (evE C m env s).bind (fun x s => .ok (.bl (match x with | .non => true | _ => false)) s) = .ok d s' := h
    cases h2 : evE C m env s with
    | ok x s2 => rw [h2] at h; cases h; exact ⟨_, rfl⟩
    | ex x s2 => rw [h2] at h; cases h
    | no => rw [h2] at h; cases h) q
  refine ⟨W, env, s, e, S, ?_⟩
  refine (Post.bind (r := evE C m env s) (f := hIsN) P).imp fun v H1 ⟨d, s1, W1, L, S1, r, P1⟩ => ?_
  show ∃ c, V.bl (decide (v = .non)) = .bl c ∧ Q c H1
  rw [rl_non r]
  exact P1.bl S1
theorem st_isntN {C : Ctx} {m : ME} {j : Nat} (ha : PE X a (TF X.K M g (evE C m) E)) : PT X (.Compare a [.IsNot] [.Constant .none j p] pos) (TT' X.K M g (tst (evE C (.isntN m))) E) := by
  refine PT.imp (pt_cmp (pc_notN ha) (nomark rfl _)) fun σ H Q q => ?_
  obtain ⟨W, env, s, e, S, P⟩ := tst_bl (f := evE C (.isntN m)) (fun env s d s' h => by
    have h : (evE C m env s).bind (fun x s => .ok (.bl (match x with | .non => false | _ => true)) s) = .ok d s' := h
    cases h2 : evE C m env s with
    | ok x s2 => rw [h2] at h; cases h; exact ⟨_, rfl⟩
    | ex x s2 => rw [h2] at h; cases h
    | no => rw [h2] at h; cases h) q
  refine ⟨W, env, s, e, S, ?_⟩
  refine (Post.bind (r := evE C m env s) (f := hNtN) P).imp fun v H1 ⟨d, s1, W1, L, S1, r, P1⟩ => ?_
  show ∃ c, V.bl (!decide (v = .non)) = .bl c ∧ Q c H1
  rw [rl_non2 r]
  exact P1.bl S1
/-! ### displays -/
theorem evEs_len {C : Ctx} : ∀ (ms : List ME) (env : Env) (s : Sto) (ds : List D) (s' : Sto), evEs C ms env s = .ok ds s' → ds.length = ms.length
  | [], env, s, ds, s', h => by
    have h : (R.ok [] s : R (List D)) = .ok ds s' := by rw [← h]; rfl
    cases h
    rfl
  | m :: ms, env, s, ds, s', h => by
    have h : (evE C m env s).bind (fun d s => (evEs C ms env s).bind fun ds s => .ok (d :: ds) s) = .ok ds s' := by rw [← h]; rfl
    cases h1 : evE C m env s with
    | no => rw [h1] at h; cases h
    | ex x s1 => rw [h1] at h; cases h
    | ok d s1 =>
      rw [h1] at h
      have h : (evEs C ms env s1).bind (fun ds s => .ok (d :: ds) s) = .ok ds s' := h
      cases h2 : evEs C ms env s1 with
      | no => rw [h2] at h; cases h
      | ex x s1 => rw [h2] at h; cases h
      | ok es s2 =>
        rw [h2] at h
        cases h
        simp [evEs_len ms env s1 es _ h2]
theorem s_tup {C : Ctx} {ms : List ME} {k : Nat} (hl : ms.length ≤ 1000) (h : PA X es (TA' X.K M g (evEs C ms) E)) : PE X (.Tuple es k pos) (TF X.K M g (evE C (.tup ms)) E) := by
  refine PE.imp (pe_tup h) fun σ H Q ⟨W, env, s, e, S, P⟩ => ⟨W, env, s, e, S, ?_⟩
  have P : Post X.K M g (Rl X.K M) (wE E σ) W Q ((evEs C ms env s).bind fun ds s => .ok (.tup ds) s) := P
  cases h1 : evEs C ms env s with
  | no => rw [h1] at P; exact P
  | ex x s1 => rw [h1] at P; exact P
  | ok ds s1 =>
    rw [h1] at P
    intro W' H' vs L S' r
    refine ⟨?_, fun p hp => (Post.mono P L).tup S' r hp⟩
    rw [r.length, evEs_len ms env s ds s1 h1, ← lenLine_eq]
    exact Nat.le_trans hl (by decide)
theorem s_lst {C : Ctx} {m : Bool} {ms : List ME} (h : PA X es (TA' X.K M g (evEs C ms) E)) : PE X (.List es pos) (TF X.K M g (evE C (.lst m ms)) E) := by
  refine PE.imp (pe_lst h) fun σ H Q q => ?_
  obtain ⟨W, env, s, e, S, P⟩ := taBind (f := evEs C ms) (h := fun ds s => mkLst m ds s) q
  refine ⟨W, env, s, e, S, P.imp fun vs H1 ⟨W1, env1, s1, ds, e1, S1, r, P1⟩ => ?_⟩
  unfold mkLst at P1
  split at P1
  · rename_i hl
    exact ⟨by rw [r.length, ← lenLine_eq]; exact hl, fun p hp => P1.mk S1 (.lst r) hp⟩
  · exact P1.elim
/-! ### subscripts -/
def plainIx : Expr → Bool
  | .Slice _ _ _ _ => false
  | .Starred _ _ => false
  | _ => true
theorem plainIx_ok {b : Expr} (h : plainIx b = true) : PlainIx b := by
  intro o i
  cases b <;> first | rfl | cases h
theorem s_idx (hu : X.A.units + 1 < cLine) (hp : plainIx b = true) (ha : PE X a (TF X.K M g fa E)) (hb : PE X b (TF X.K M g fb E)) :
    PE X (.Subscript a b pos) (TF X.K M g (fun env s => (fa env s).bind fun x s => (fb env s).bind fun y s => idxV x y s) E) := PE.imp (pe_ix (o_idx hu) ha hb (plainIx_ok hp)) fun σ H Q q => tfOp q
/-- a slice's part -/
def TO' (K : PySem.W.Frag) (M : Nm) (g : Nat → Prop) (f : Env → Sto → R (Option Int)) (E : WX) : TO := fun σ H Q => ∃ W env s, EnvR K M W σ env ∧ StR K M W H g s ∧ Post K M g (fun _ (o : Option Int) a => a = o) (wE E σ) W Q (f env s)
theorem s_po0 {C : Ctx} : PO X none (TO' X.K M g (evO C none) E) := by
  refine ⟨fun pins s σ H Q I ⟨W, env, st, e, S, P⟩ => po_none.run pins s σ H Q I ?_⟩
  exact P W H none .refl S rfl
def hInt : D → Sto → R (Option Int) := fun d s => match d with
  | .int i => .ok (some i) s
  | _ => .no
theorem s_po1 {C : Ctx} {m : ME} (ha : PE X a (TF X.K M g (evE C m) E)) : PO X (some a) (TO' X.K M g (evO C (some m)) E) := by
  refine ⟨fun pins s σ H Q I ⟨W, env, st, e, S, P⟩ => (po_some ha).run pins s σ H Q I ⟨W, env, st, e, S, ?_⟩⟩
  have P : Post X.K M g (fun _ (o : Option Int) a => a = o) (wE E σ) W Q ((evE C m env st).bind hInt) := P
  refine P.bind.imp fun v H1 ⟨d, s1, W1, L, S1, r, P1⟩ => ?_
  unfold hInt at P1
  cases d with
  | int i =>
    cases r
    exact ⟨i, rfl, P1 W1 H1 (some i) .refl S1 rfl⟩
  | _ => exact P1.elim
theorem s_slc {C : Ctx} {m : Bool} {ma : ME} {ml mh : Option ME} {lo hi : Option Expr} (ha : PE X a (TF X.K M g (evE C ma) E)) (hl : PO X lo (TO' X.K M g (evO C ml) E)) (hh : PO X hi (TO' X.K M g (evO C mh) E)) :
    PE X (.Subscript a (.Slice lo hi none p2) pos) (TF X.K M g (evE C (.slc m ma ml mh)) E) := by
  refine PE.imp (pe_slice (o_slc (M := M) (g := g) (m := m)) ha hl hh) fun σ H Q ⟨W, env, s, e, S, P⟩ => ⟨W, env, s, e, S, ?_⟩
  have P : Post X.K M g (Rl X.K M) (wE E σ) W Q ((evE C ma env s).bind fun x s => (evO C ml env s).bind fun l s => (evO C mh env s).bind fun h s => slc m x l h s) := P
  refine P.bind.imp fun v H1 ⟨d, s1, W1, L, S1, r, P1⟩ => ⟨W1, env, s1, e.mono L, S1, ?_⟩
  refine P1.bind.imp fun l H2 ⟨l', s2, W2, L2, S2, r2, P2⟩ => ⟨W2, env, s2, e.mono (L.trans L2), S2, ?_⟩
  refine P2.bind.imp fun h H3 ⟨h', s3, W3, L3, S3, r3, P3⟩ => ?_
  have r2 : l' = l := r2
  have r3 : h' = h := r3
  subst r2 r3
  exact ⟨W3, s3, d, wE E σ, S3, r.mono (L2.trans L3), P3⟩
/-! ### chains -/
theorem s_chain {C : Ctx} {op op' : CmpOp} {o1 o2 : Cop} {ma mb mc : ME} (ho : OpR X (compareOp op) (r2 X.K M g (cmpV o1))) (ho' : OpR X (compareOp op') (r2 X.K M g (cmpV o2))) (ha : PE X a (TF X.K M g (evE C ma) E)) (hb : PE X b (TF X.K M g (evE C mb) E)) (hc : PE X c (TF X.K M g (evE C mc) E)) (hm : lastMarks [op, op'] [b, c] = false) :
    PE X (.Compare a [op, op'] [b, c] pos) (TF X.K M g (evE C (.chain o1 o2 ma mb mc)) E) := by
  refine PE.imp (pe_chain ho ho' ha hb hc hm) fun σ H Q ⟨W, env, s, e, S, P⟩ => ⟨W, env, s, e, S, ?_⟩
  have P : Post X.K M g (Rl X.K M) (wE E σ) W Q ((evE C ma env s).bind fun x s => (evE C mb env s).bind fun y s => match cmp o1 x y s with
    | some true => (evE C mc env s).bind fun z s => cmpV o2 y z s
    | some false => .ok (.bl false) s
    | none => .no) := P
  refine P.bind.imp fun x H1 ⟨d1, s1, W1, L1, S1, r1, P1⟩ => ⟨W1, env, s1, e.mono L1, S1, ?_⟩
  refine P1.bind.imp fun y H2 ⟨d2, s2, W2, L2, S2, r2, P2⟩ => ⟨W2, s2, d1, d2, wE E σ, S2, r1.mono L2, r2, ?_⟩
  unfold cmpV
  cases hc1 : cmp o1 d1 d2 s2 with
  | none => rw [hc1] at P2; exact P2.elim
  | some k =>
    rw [hc1] at P2
    intro W3 H3 v L3 S3 r3
    cases r3
    refine ⟨k, rfl, ?_⟩
    cases k with
    | false => exact (Post.mono P2 L3).bl S3
    | true =>
      refine ⟨W3, env, s2, e.mono (L1.trans (L2.trans L3)), S3, (Post.mono P2 L3).bind.imp fun z H4 ⟨d3, s4, W4, L4, S4, r4, P4⟩ => ?_⟩
      exact ⟨W4, s4, d2, d3, _, S4, r2.mono (L3.trans L4), r4, P4⟩
theorem st_chain {C : Ctx} {op op' : CmpOp} {o1 o2 : Cop} {ma mb mc : ME} (ho : OpR X (compareOp op) (r2 X.K M g (cmpV o1))) (ho' : OpR X (compareOp op') (r2 X.K M g (cmpV o2))) (ha : PE X a (TF X.K M g (evE C ma) E)) (hb : PE X b (TF X.K M g (evE C mb) E)) (hc : PE X c (TF X.K M g (evE C mc) E)) (hm : lastMarks [op, op'] [b, c] = false) :
    PT X (.Compare a [op, op'] [b, c] pos) (TT' X.K M g (tst (evE C (.chain o1 o2 ma mb mc))) E) := by
  refine PT.imp (pt_chain ho ho' ha hb hc hm) fun σ H Q q => ?_
  obtain ⟨W, env, s, e, S, P⟩ := tst_bl (f := evE C (.chain o1 o2 ma mb mc)) (fun env s d s' h => by
    have h : ((evE C ma env s).bind fun x s => (evE C mb env s).bind fun y s => match cmp o1 x y s with
      | some true => (evE C mc env s).bind fun z s => at? ((cmp o2 y z s).map .bl) s
      | some false => .ok (.bl false) s
      | none => .no) = .ok d s' := h
    cases h1 : evE C ma env s with
    | no => rw [h1] at h; cases h
    | ex x s2 => rw [h1] at h; cases h
    | ok x s1 =>
      rw [h1] at h
      simp only [R.bind_ok] at h
      cases h2 : evE C mb env s1 with
      | no => rw [h2] at h; cases h
      | ex x s2 => rw [h2] at h; cases h
      | ok y s2 =>
        rw [h2] at h
        simp only [R.bind_ok] at h
        cases h3 : cmp o1 x y s2 with
        | none => rw [h3] at h; cases h
        | some k =>
          rw [h3] at h
          cases k with
          | false => cases h; exact ⟨_, rfl⟩
          | true =>
            dsimp only at h
            cases h4 : evE C mc env s2 with
            | no => rw [h4] at h; cases h
            | ex x s2 => rw [h4] at h; cases h
            | ok z s3 =>
              rw [h4] at h
              simp only [R.bind_ok] at h
              cases h5 : cmp o2 y z s3 with
              | none => rw [h5] at h; cases h
              | some k => rw [h5] at h; cases h; exact ⟨_, rfl⟩) q
  refine ⟨W, env, s, e, S, ?_⟩
  have P : Post X.K M g (Rl X.K M) (wE E σ) W (fun x H' => ∃ c, x = .bl c ∧ Q c H') ((evE C ma env s).bind fun x s => (evE C mb env s).bind fun y s => match cmp o1 x y s with
    | some true => (evE C mc env s).bind fun z s => cmpV o2 y z s
    | some false => .ok (.bl false) s
    | none => .no) := P
  refine P.bind.imp fun x H1 ⟨d1, s1, W1, L1, S1, r1, P1⟩ => ⟨W1, env, s1, e.mono L1, S1, ?_⟩
  refine P1.bind.imp fun y H2 ⟨d2, s2, W2, L2, S2, r2, P2⟩ => ⟨W2, s2, d1, d2, wE E σ, S2, r1.mono L2, r2, ?_⟩
  unfold cmpV
  cases hc1 : cmp o1 d1 d2 s2 with
  | none => rw [hc1] at P2; exact P2.elim
  | some k =>
    rw [hc1] at P2
    intro W3 H3 v L3 S3 r3
    cases r3
    refine ⟨k, rfl, ?_⟩
    cases k with
    | false =>
      obtain ⟨c, e1, q1⟩ := (Post.mono P2 L3).bl S3
      exact ⟨false, rfl, by cases e1; exact q1⟩
    | true =>
      refine ⟨W3, env, s2, e.mono (L1.trans (L2.trans L3)), S3, (Post.mono P2 L3).bind.imp fun z H4 ⟨d3, s4, W4, L4, S4, r4, P4⟩ => ?_⟩
      exact ⟨W4, s4, d2, d3, _, S4, r2.mono (L3.trans L4), r4, P4⟩
end
end Fn

set_option Elab.async false
set_option linter.all false
set_option maxRecDepth 100000
set_option maxHeartbeats 2000000
namespace Fn
open PySem L2 PySem.Spec PyProof.Rows
/-- a def's promise by its meaning -/
def spF (K : PySem.W.Frag) (M : Nm) (f : List D → Sto → R D) : L2.Sp := fun vs H Q E => ∃ g W s ds, StR K M W H g s ∧ RlL K M W vs ds ∧ Post K M g (Rl K M) E W Q (f ds s)
/-- what a call of a def at a takes: n values, keywords ks; pl: the parameters' values -/
structure CallOk (P : Program) (w : World) (K : PySem.W.Frag) (mg : Str → Option Value) (base : Heap) (M : Nm) (f : List D → Sto → R D) (k : Nat) (a : Addr) (n : Nat) (ks : List Str) (pl : List D → List D → Option (List D)) : Prop where
  ex : ∃ (fd : FuncData) (ps : List Str) (gg : List Value → List Value → List Value) (gV : List V → List V → List V), FnOk P w K mg base (L2.CX P w) k a fd ps (spF K M f) ∧ KBn K fd ps n ks gg gV ∧
    ∀ W vs ds zs es xs, RlL K M W vs ds → RlL K M W zs es → vs.length = n → pl ds es = some xs → RlL K M W (gV vs zs) xs
section
variable {X : Cx} {M : Nm} {g : Nat → Prop} {E : WX} {k n : Nat} {f : List D → Sto → R D} {fa : Addr} {ks : List Str} {pl : List D → List D → Option (List D)}
theorem run_callF {pins : List (Addr × Obj)} {σ : L2.St} {H : Hp} {s : Shared} {Q : VK} {us ws : List Value} {vs zs : List V} {W : Wd} {st : Sto} {ds es xs : List D} (c : CallOk X.prog X.w X.K X.mg X.base M f k fa n ks pl) (hr : Room k X.A) (tk : Takes X E)
    (I : L2.Inv X pins σ H s) (r : Vals vs us) (rz : Vals zs ws) (l1 : vs.length = n) (l2 : zs.length = ks.length) (S : StR X.K M W H g st) (rl : RlL X.K M W vs ds) (rlz : RlL X.K M W zs es) (hs : pl ds es = some xs) (P : Post X.K M g (Rl X.K M) (wE E σ) W Q (f xs st)) :
    wpAny (model X.prog X.w) X.A (call (.ref fa) us (ks.zip ws)) (EP X pins σ Q) X.xe s := by
  obtain ⟨fd, ps, gg, gV, F, hb, hp⟩ := c.ex
  have r2 := hb.rel r rz
  refine wpAny_call (codeAny_mono (F.run X.A X.stack s H ⟨us, ks.zip ws⟩ (gg us ws) (gV vs zs) Q (wE E σ) hr I.env0 (hb.to s us ws I.kIn (r.length.symm.trans l1) (rz.length.symm.trans l2)) r2 ⟨g, W, st, xs, S, hp W vs ds zs es xs rl rlz l1 hs, P⟩) fun r s' hq => ?_)
  cases r with
  | error e => exact passAt tk σ pins H s e s' I hq
  | ok fl =>
    cases fl with
    | ret u => exact I.after hq
    | next => exact False.elim hq
    | brk => exact False.elim hq
    | cont => exact False.elim hq
/-! ### keywords -/
def kwE (kws : List Keyword) : List Expr := kws.map (·.value)
def kwOk (ks : List Str) (kws : List Keyword) : Bool := decide (kws.map (·.arg) = ks.map some)
theorem kw_names {env : PySem.Env} {pos : Pos} : ∀ {kws : List Keyword} {ks : List Str}, kws.map (·.arg) = ks.map some → (backToKw pos (keywordEach kws env)).all (·.1.isSome) = true ∧ (backToKw pos (keywordEach kws env)).filterMap (·.1) = ks ∧ (backToKw pos (keywordEach kws env)).any (·.1.isNone) = false
  | [], [], _ => ⟨rfl, rfl, rfl⟩
  | [], _ :: _, h => by cases h
  | _ :: _, [], h => by cases h
  | ⟨nm, e, p⟩ :: kws, k :: ks, h => by
    have h1 := List.cons.inj (show nm :: kws.map (·.arg) = some k :: ks.map some from h)
    obtain ⟨a, b, c⟩ := kw_names (env := env) (pos := pos) h1.2
    rw [h1.1]
    refine ⟨?_, ?_, ?_⟩
    · show (true && (backToKw pos (keywordEach kws env)).all (·.1.isSome)) = true
      rw [a]; rfl
    · show k :: (backToKw pos (keywordEach kws env)).filterMap (·.1) = k :: ks
      rw [b]
    · show (false || (backToKw pos (keywordEach kws env)).any (·.1.isNone)) = false
      rw [c]; rfl
theorem PK.imp {es : List Keyword} {t t1 : TA} (h : PK X es t) (i : ∀ σ H Q, t1 σ H Q → t σ H Q) : PK X es t1 := ⟨fun pos pins s σ H Q I q => h.run pos pins s σ H Q I (i _ _ _ q)⟩
theorem k_nil : PK X [] (TA' X.K M g (fun _ s => .ok [] s) E) := PK.imp pk_nil fun σ H Q ⟨W, env, s, e, S, P⟩ => P W H [] .refl S .nil
theorem k_cons {e : Expr} {kws : List Keyword} {nm : Option Str} {kpos : Pos} {fe : FE} {fr : FA} (he : PE X e (TF X.K M g fe E)) (hr : PK X kws (TA' X.K M g fr E)) : PK X (⟨nm, e, kpos⟩ :: kws) (TA' X.K M g (fun env s => (fe env s).bind fun d s => (fr env s).bind fun ds s => .ok (d :: ds) s) E) := by
  refine PK.imp (pk_cons he hr) fun σ H Q ⟨W, env, s, e, S, P⟩ => ⟨W, env, s, e, S, ?_⟩
  refine P.bind.imp fun x H1 ⟨d, s1, W1, L, S1, r1, P1⟩ => ⟨W1, env, s1, e.mono L, S1, ?_⟩
  refine P1.bind.imp fun xs H2 ⟨ds, s2, W2, L2, S2, r2, P2⟩ => P2 W2 H2 _ .refl S2 (.cons (r1.mono L2) r2)
/-- the meaning of a call -/
def fCall (fs fk : FA) (pl : List D → List D → Option (List D)) (f : List D → Sto → R D) : FE := fun env s => (fs env s).bind fun vs s => (fk env s).bind fun zs s => match pl vs zs with
  | some ds => f ds s
  | none => .no
theorem s_call {C : Ctx} {x : Str} {p pos : Pos} {es : List Expr} {kws : List Keyword} {ms mk : List ME} (c : CallOk X.prog X.w X.K X.mg X.base M f k fa n ks pl) (hr : Room k X.A) (tk : Takes X E) (hg : Gl X x) (hm : X.mg x = some (.ref fa)) (hkp : PySem.W.keepIn X.K (.ref fa) = true)
    (hdb : (x == ("__debug__" : Str)) = false) (hst : (es.all fun e => !isStar e) = true) (ha : PA X es (TA' X.K M g (evEs C ms) E)) (hkw : PK X kws (TA' X.K M g (evEs C mk) E)) (hks : kws.map (·.arg) = ks.map some) (hl : es.length = ms.length) (hn : ms.length = n) (hkn : mk.length = ks.length) (he : kws = [] ∨ es ≠ []) :
    PE X (.Call (.Name x p) es kws pos) (TF X.K M g (fCall (evEs C ms) (evEs C mk) pl f) E) := by
  refine ⟨fun pins s σ H Q I h => ?_⟩
  refine wpAny_Call_Name_kw (ld_glob I hg hm ?_ hdb)
  obtain ⟨W, env, st, en, S, P⟩ := h
  obtain ⟨k1, k2, k3⟩ := kw_names (env := X.env) (pos := pos) hks
  -- the values
  have A : ∀ (us : List Value) (s1 : Shared), AP X pins σ (fun vs H1 => ∃ W1 st1 ds, EnvR X.K M W1 σ env ∧ StR X.K M W1 H1 g st1 ∧ RlL X.K M W1 vs ds ∧ vs.length = n ∧ Post X.K M g (Rl X.K M) (wE E σ) W1 Q ((evEs C mk env st1).bind fun zs s => match pl ds zs with | some ds => f ds s | none => .no)) us s1 →
      kws = [] → wpAny (model X.prog X.w) X.A (call (.ref fa) us) (EP X pins σ Q) X.xe s1 := fun us s1 hq hk0 => by
    subst hk0
    obtain ⟨vs, H1, I1, r1, W1, st1, ds, en1, S1, rl, l1, P1⟩ := hq
    have hks0 : ks = [] := by
      cases ks with
      | nil => rfl
      | cons _ _ => cases hks
    subst hks0
    have hmk : mk = [] := by
      cases mk with
      | nil => rfl
      | cons _ _ => cases hkn
    subst hmk
    have P1 : Post X.K M g (Rl X.K M) (wE E σ) W1 Q (match pl ds [] with | some ds => f ds st1 | none => .no) := P1
    cases hp : pl ds [] with
    | none => rw [hp] at P1; exact P1.elim
    | some xs =>
      rw [hp] at P1
      exact run_callF (ws := []) (zs := []) c hr tk I1 r1 .nil l1 rfl S1 rl .nil hp P1
  have P : Post X.K M g (Rl X.K M) (wE E σ) W Q ((evEs C ms env st).bind fun vs s => (evEs C mk env s).bind fun zs s => match pl vs zs with | some ds => f ds s | none => .no) := P
  have hTA : TA' X.K M g (evEs C ms) E σ H (fun vs H1 => ∃ W1 st1 ds, EnvR X.K M W1 σ env ∧ StR X.K M W1 H1 g st1 ∧ RlL X.K M W1 vs ds ∧ vs.length = n ∧ Post X.K M g (Rl X.K M) (wE E σ) W1 Q ((evEs C mk env st1).bind fun zs s => match pl ds zs with | some ds => f ds s | none => .no)) := by
    refine ⟨W, env, st, en, S, ?_⟩
    cases h1 : evEs C ms env st with
    | no => rw [h1] at P; exact P
    | ex x s1 => rw [h1] at P; exact P
    | ok ds s1 =>
      rw [h1] at P
      intro W' H' vs L S' r
      exact ⟨W', s1, ds, en.mono L, S', r, by rw [r.length, evEs_len ms env st ds s1 h1, hn], Post.mono P L⟩
  match es, kws, hl, hst, ha, hkw, he, k1, k2, k3, A with
  | [], [], hl, hst, ha, hkw, he, k1, k2, k3, A =>
    refine PySem.W.callWith_K0 I.kIn hkp ?_
    have hms : ms = [] := by
      cases ms with
      | nil => rfl
      | cons m r => cases hl
    subst hms
    exact A [] s ⟨[], H, I, .nil, W, st, [], en, S, .nil, hn, P⟩ rfl
  | e :: es, [], hl, hst, ha, hkw, he, k1, k2, k3, A =>
    simp only [List.all_cons, Bool.and_eq_true, Bool.not_eq_true'] at hst
    refine PySem.W.callWith_K (h₀ := X.base) I.ok.mod.kin hkp (thn (ha.run pos pins s σ H _ I hTA) fun us s1 hq => ⟨?_, A us s1 hq rfl⟩) (star_cons hst.1) (star_back hst.2)
    obtain ⟨vs, H1, I1, _⟩ := hq
    exact I1.kIn
  | e :: es, kw :: kws, hl, hst, ha, hkw, he, k1, k2, k3, A =>
    simp only [List.all_cons, Bool.and_eq_true, Bool.not_eq_true'] at hst
    refine PySem.W.callWith_KW (h₀ := X.base) I.ok.mod.kin hkp k1 (thn (ha.run pos pins s σ H _ I hTA) fun us s1 ⟨vs, H1, I1, r, W1, st1, ds, en1, S1, rl, l1, P1⟩ => ?_) (by rw [k3, star_back (by simp [hst.1, hst.2])]; rfl) (star_cons hst.1)
    refine thn (hkw.run pos pins s1 σ H1 (fun zs H2 => ∃ W2 st2 es2, StR X.K M W2 H2 g st2 ∧ RlL X.K M W2 vs ds ∧ RlL X.K M W2 zs es2 ∧ zs.length = ks.length ∧ Post X.K M g (Rl X.K M) (wE E σ) W2 Q (match pl ds es2 with | some ds => f ds st2 | none => .no)) I1 ⟨W1, env, st1, en1, S1, ?_⟩) fun ws s2 ⟨zs, H2, I2, rz, W2, st2, es2, S2, rl2, rlz, l2, P2⟩ => ⟨I2.kIn, ?_⟩
    · cases h1 : evEs C mk env st1 with
      | no => rw [h1] at P1; exact P1.elim
      | ex x s1 => rw [h1] at P1; exact P1
      | ok es2 s2 =>
        rw [h1] at P1
        intro W' H' vs L S' r
        exact ⟨W', s2, es2, S', rl.mono L, r, by rw [r.length, evEs_len mk env st1 es2 s2 h1, hkn], Post.mono P1 L⟩
    · rw [k2]
      cases hp : pl ds es2 with
      | none => rw [hp] at P2; exact P2.elim
      | some xs =>
        rw [hp] at P2
        exact run_callF c hr tk I2 r rz l1 l2 S2 rl2 rlz hp P2
  | [], kw :: kws, hl, hst, ha, hkw, he, k1, k2, k3, A =>
    rcases he with he | he
    · cases he
    · exact absurd rfl he
/-! ### built-ins -/
theorem taRn {C : Ctx} {ms : List ME} {h : List D → Sto → R D} {K : PySem.W.Frag} {σ : L2.St} {H : Hp} {Q : VK} (q : TF K M g (fun env s => (evEs C ms env s).bind fun xs s => h xs s) E σ H Q) : tCB (rN K M g h) (TA' K M g (evEs C ms) E) σ H Q := by
  obtain ⟨W, env, s, e, S, P⟩ := taBind (f := evEs C ms) (h := h) q
  exact ⟨W, env, s, e, S, P.imp fun vs H1 ⟨W1, env1, s1, ds, e1, S1, r, P1⟩ => ⟨W1, s1, ds, _, S1, r, P1⟩⟩
theorem s_bltB {C : Ctx} {x : Str} {id : String} {p pos : Pos} {e : Expr} {es : List Expr} {ms : List ME} {h : List D → Sto → R D} (hc : CallR X (.builtin id) (rN X.K M g h)) (hg : Gl X x) (hm : X.mg x = none) (hv : bootBuiltins x = some (.builtin id)) (hn : x ≠ "__name__") (hdb : (x == ("__debug__" : Str)) = false)
    (hst : ((e :: es).all fun e => !isStar e) = true) (ha : PA X (e :: es) (TA' X.K M g (evEs C ms) E)) : PE X (.Call (.Name x p) (e :: es) [] pos) (TF X.K M g (fun env s => (evEs C ms env s).bind fun xs s => h xs s) E) := by
  simp only [List.all_cons, Bool.and_eq_true, Bool.not_eq_true'] at hst
  exact PE.imp (pe_callB hc hg hm hv ha hn hdb (star_cons hst.1) (star_back hst.2)) fun σ H Q q => taRn q
theorem s_bltT {C : Ctx} {x : Str} {T : String} {p pos : Pos} {e : Expr} {es : List Expr} {ms : List ME} {h : List D → Sto → R D} (hc : CallR X (.type T) (rN X.K M g h)) (hg : Gl X x) (hm : X.mg x = none) (hv : bootBuiltins x = some (.type T)) (hn : x ≠ "__name__") (hdb : (x == ("__debug__" : Str)) = false)
    (hst : ((e :: es).all fun e => !isStar e) = true) (ha : PA X (e :: es) (TA' X.K M g (evEs C ms) E)) : PE X (.Call (.Name x p) (e :: es) [] pos) (TF X.K M g (fun env s => (evEs C ms env s).bind fun xs s => h xs s) E) := by
  simp only [List.all_cons, Bool.and_eq_true, Bool.not_eq_true'] at hst
  exact PE.imp (pe_callTy hc hg hm hv ha hn hdb (star_cons hst.1) (star_back hst.2)) fun σ H Q q => taRn q
/-! ### isinstance -/
def tyN : Ty → String
  | .int => "int"
  | .bool => "bool"
  | .str => "str"
  | .list => "list"
  | .tuple => "tuple"
def tyS : Ty → Str
  | .int => "int"
  | .bool => "bool"
  | .str => "str"
  | .list => "list"
  | .tuple => "tuple"
theorem sqt_ty {K : PySem.W.Frag} {H : Hp} {a : Addr} {vs : List V} (h : SqT K H a vs) : TyX K H (.ref a) (.type "tuple") := by
  rcases h with h | ⟨o, _, _, e, c, _⟩
  · rcases h with h | ⟨o, h⟩
    · exact .base (.tup h)
    · exact .fTuple h
  · exact .kTuple e c
theorem sql_ty {K : PySem.W.Frag} {H : Hp} {a : Addr} {vs : List V} (h : SqL K H a vs) : TyX K H (.ref a) (.type "list") := by
  rcases h with h | ⟨o, _, _, e, c, _⟩
  · rcases h with h | ⟨o, h⟩
    · exact .base (.lst h)
    · exact .base (.frz h)
  · exact .kList e c
theorem kit_all : ∀ t : Ty, kitB "NoneType" (tyN t) = some false ∧ kitB "bool" (tyN t) = some (t == .bool || t == .int) ∧ kitB "int" (tyN t) = some (t == .int) ∧ kitB "str" (tyN t) = some (t == .str) ∧ kitB "tuple" (tyN t) = some (t == .tuple) ∧ kitB "list" (tyN t) = some (t == .list) ∧ kitB "dict" (tyN t) = some false := by
  intro t
  cases t <;> decide +kernel
theorem isTy_ok {K : PySem.W.Frag} {W : Wd} {H : Hp} {s : Sto} {v : V} {d : D} {t : Ty} {b : Bool} (S : StR K M W H g s) (r : Rl K M W v d) (h : isTy d s t = some b) : ∃ n, TyX K H v (.type n) ∧ kitB n (tyN t) = some b := by
  obtain ⟨k1, k2, k3, k4, k5, k6, k7⟩ := kit_all t
  have gen : ∀ {d : D}, Rl K M W v d → (match view d s with | some (.lst _) => some (t == .list) | some (.dct false _) => some false | _ => none) = some b → ∃ n, TyX K H v (.type n) ∧ kitB n (tyN t) = some b := fun r h => by
    split at h
    · rename_i ds e
      obtain ⟨a, vs, rfl, h1, _⟩ := view_lst r S e
      cases h
      exact ⟨_, .base (.lst h1), k6⟩
    · rename_i es e
      obtain ⟨a, rfl, h1⟩ := dct_ok (t := false) (es := es) r S (by unfold dctOf; rw [e])
      cases h
      rcases h1 with ⟨_, kvs, h1 | ⟨_, o, h1⟩, _⟩ | ⟨z, _⟩
      · exact ⟨_, .base (.dK h1), k7⟩
      · exact ⟨_, .fDict h1, k7⟩
      · cases z
    · cases h
  cases r with
  | non => cases h; exact ⟨_, .base .non, k1⟩
  | bl => cases h; exact ⟨_, .base (.bl _), k2⟩
  | int => cases h; exact ⟨_, .base (.int _), k3⟩
  | str => cases h; exact ⟨_, .base (.str _), k4⟩
  | tup hz _ => cases h; exact ⟨_, sqt_ty (SqT.of (rdx_tup (S.fz _ _ hz))), k5⟩
  | ktup hz _ => cases h; exact ⟨_, sqt_ty (hz H), k5⟩
  | klst hz rl =>
    cases h
    obtain ⟨a, vs, e1, h1, h2⟩ := lst_ok (.klst hz rl) S (ds := _) rfl
    cases e1
    exact ⟨_, sql_ty h1, k6⟩
  | frz hz rl => exact gen (.frz hz rl) h
  | loc hz => exact gen (.loc hz) h
theorem s_isi {C : Ctx} {m : Bool} {t : Ty} {ma : ME} {a : Expr} {p p2 pos : Pos} (hg : Gl X "isinstance") (hm : X.mg "isinstance" = none) (hg2 : Gl X (tyS t)) (hm2 : X.mg (tyS t) = none) (hst : isStar a = false) (ha : PE X a (TF X.K M g (evE C ma) E)) :
    PE X (.Call (.Name "isinstance" p) [a, .Name (tyS t) p2] [] pos) (TF X.K M g (evE C (.blt (.isi [t]) m [ma])) E) := by
  have hb : PE X (.Name (tyS t) p2) (tC (.ty (tyN t))) := by
    cases t
    · exact pe_bltn hg2 hm2 boot_int rfl
    · exact pe_bltn hg2 hm2 boot_bool rfl
    · exact pe_bltn hg2 hm2 boot_str rfl
    · exact pe_bltn hg2 hm2 boot_list rfl
    · exact pe_bltn hg2 hm2 boot_tuple rfl
  refine PE.imp (pe_callB call_isi hg hm boot_isinstance (pa_cons ha (pa_cons hb pa_nil (star_cons rfl)) (star_cons hst)) (by decide) (by decide) (star_cons hst) (star_back rfl)) fun σ H Q ⟨W, env, s, e, S, P⟩ => ⟨W, env, s, e, S, ?_⟩
  have P : Post X.K M g (Rl X.K M) (wE E σ) W Q (((evE C ma env s).bind fun d s => .ok [d] s).bind fun xs s => bltE (.isi [t]) m xs s) := P
  rw [R.bind_assoc] at P
  refine P.bind.imp fun v H1 ⟨d, s1, W1, L, S1, r, P1⟩ => ?_
  have P1 : Post X.K M g (Rl X.K M) (wE E σ) W1 Q (at? ((anyTy d s1 [t]).map .bl) s1) := P1
  obtain ⟨b, hb, P2⟩ := Post.at P1
  have hb : (anyTy d s1 [t]).map D.bl = some b := hb
  cases h1 : isTy d s1 t with
  | none =>
    have : anyTy d s1 [t] = none := by show (match isTy d s1 t, some false with | some a, some b => some (a || b) | _, _ => none) = none; rw [h1]
    rw [this] at hb
    cases hb
  | some k =>
    have : anyTy d s1 [t] = some (k || false) := by show (match isTy d s1 t, some false with | some a, some b => some (a || b) | _, _ => none) = _; rw [h1]
    rw [this] at hb
    cases hb
    rw [Bool.or_false] at P2
    obtain ⟨n, h2, h3⟩ := isTy_ok S1 r h1
    exact ⟨v, _, _, _, k, rfl, .ty _, h2, kit_ty h3, P2.bl S1⟩
end
end Fn

set_option Elab.async false
set_option linter.all false
set_option maxRecDepth 100000
set_option maxHeartbeats 2000000
namespace Fn
open PySem L2 PySem.Spec PyProof.Rows
/-! Fn14b: fields, methods, new instances, the ghost freeze. -/
/-- receivers by their form -/
def recvOk : Expr → Bool
  | .Name _ _ => true
  | .Attribute _ _ _ => true
  | .Subscript _ _ _ => true
  | .Constant _ _ _ => true
  | _ => false
theorem recv_base {o : Expr} (h : recvOk o = true) (f : Str) (env : PySem.Env) : attributeBase o f env (eval o env) = eval o env := by
  cases o <;> first | (cases h; done) | rfl
theorem star_all {env : PySem.Env} {pos : Pos} : ∀ {es : List Expr}, (es.all fun e => !isStar e) = true → (backTo pos (starEach es env)).all (!·.1) = true
  | [], _ => rfl
  | e :: es, h => by
    simp only [List.all_cons, Bool.and_eq_true, Bool.not_eq_true'] at h
    rw [star_cons h.1]
    show ((!false) && (backTo pos (starEach es env)).all (!·.1)) = true
    rw [star_all h.2]; rfl
theorem kw_empty {env : PySem.Env} {pos : Pos} {kws : List Keyword} : (backToKw pos (keywordEach kws env)).isEmpty = kws.isEmpty := by
  cases kws with
  | nil => rfl
  | cons k r => cases k; rfl
theorem recv_call {o : Expr} (h : recvOk o = true) (m : Str) {apos pos : Pos} {args : List Expr} {kws : List Keyword} {ks : List Str} {env : PySem.Env} (hst : (args.all fun e => !isStar e) = true) (hks : kws.map (·.arg) = ks.map some) (hn : args.length + kws.length < 29) (hl : (apos.endLine == pos.line) = true) :
    ∃ pl : Sem Bool, eval (.Call (.Attribute o m apos) args kws pos) env = (do
      let ov ← eval o env
      standAt apos.atName
      let (f, first) ← holding [ov] (getMethod ov m pl)
      callWith pos f first (backTo pos (starEach args env)) (backToKw pos (keywordEach kws env))) := by
  have hf : methodCallForm (args.length + kws.length) (backTo pos (starEach args env)) (backToKw pos (keywordEach kws env)) = true := by
    unfold methodCallForm
    rw [star_all hst, (kw_names (env := env) (pos := pos) hks).1]
    have : args.length + kws.length + (if (backToKw pos (keywordEach kws env)).isEmpty = true then 0 else 1) < 30 := by split <;> omega
    simpa using this
  refine ⟨(do return (← importBound o env).getD true), ?_⟩
  rw [PySem.arm_eval_Call, recv_base h]
  unfold methodCall methodCallPos calleeOf
  rw [hf, hl]
  rfl
section
variable {K : PySem.W.Frag} {M : Nm} {W W' W2 : Wd} {H H' : Hp} {g : Nat → Prop} {s : Sto}
theorem map_toNat_inj : ∀ {a b : List Char}, a.map Char.toNat = b.map Char.toNat → a = b
  | [], [], _ => rfl
  | [], _ :: _, h => by simp at h
  | _ :: _, [], h => by simp at h
  | c :: a, d :: b, h => by
    simp only [List.map_cons, List.cons.injEq] at h
    rw [map_toNat_inj h.2, Char.toNat_inj.mp h.1]
theorem sOf_inj {a b : String} (h : sOf a = sOf b) : a = b := by
  unfold sOf at h
  rw [Str.ofString_eq_toList, Str.ofString_eq_toList] at h
  have h1 := congrArg (fun x : Str => x.cps.toList) h
  exact String.toList_inj.mp (map_toNat_inj (by simpa using h1))
theorem rlf_get : ∀ {vs : List (Str × V)} {fs : List (String × D)} {f : String} {d : D}, RlF K M W vs fs → fget fs f = some d → ∃ v, vs.lookup (sOf f) = some v ∧ Rl K M W v d
  | _, _, f, d, .nil, h => by cases h
  | _, _, f, d, .cons (f := f0) (v := v0) r rs, h => by
    unfold fget at h
    by_cases e : f0 = f
    · rw [if_pos e] at h
      cases h
      subst e
      exact ⟨v0, by simp [List.lookup], r⟩
    · rw [if_neg e] at h
      obtain ⟨v, h1, h2⟩ := rlf_get rs h
      refine ⟨v, ?_, h2⟩
      have : (sOf f == sOf f0) = false := beq_eq_false_iff_ne.mpr (fun z => e (sOf_inj z).symm)
      simp only [List.lookup, this]
      exact h1
theorem rlf_none : ∀ {vs : List (Str × V)} {fs : List (String × D)} {f : String}, RlF K M W vs fs → fget fs f = none → vs.lookup (sOf f) = none
  | _, _, f, .nil, h => rfl
  | _, _, f, .cons (f := f0) (v := v0) r rs, h => by
    unfold fget at h
    by_cases e : f0 = f
    · rw [if_pos e] at h; cases h
    · rw [if_neg e] at h
      have : (sOf f == sOf f0) = false := beq_eq_false_iff_ne.mpr (fun z => e (sOf_inj z).symm)
      simp only [List.lookup, this]
      exact rlf_none rs h
end
section
variable {X : Cx} {M : Nm} {g : Nat → Prop} {E : WX} {C : Ctx}
/-- e.f -/
theorem s_fld {a : Expr} {ma : ME} {cs : List String} {f : String} {pos : Pos} (hcs : ∀ c ∈ cs, Cls X.K (M.cls c) ∧ NoAttr X.K (M.cls c) (sOf f)) (ha : PE X a (TF X.K M g (evE C ma) E)) (hr : recvOk a = true) :
    PE X (.Attribute a (sOf f) pos) (TF X.K M g (evE C (.fld cs ma f)) E) := by
  refine PE.imp (pe_fld ha (recv_base hr _ _)) fun σ H Q ⟨W, env, s, e, S, P⟩ => ⟨W, env, s, e, S, ?_⟩
  have P : Post X.K M g (Rl X.K M) (wE E σ) W Q ((evE C ma env s).bind fun x s => at? (fldOf cs x f s) s) := P
  refine P.bind.imp fun v H1 ⟨d, s1, W1, L, S1, r, P1⟩ => ?_
  obtain ⟨d2, h1, P2⟩ := Post.at P1
  unfold fldOf at h1
  cases hi : insOf d s1 with
  | none => rw [hi] at h1; cases h1
  | some p =>
    obtain ⟨c, es⟩ := p
    rw [hi] at h1
    have h1 : (if c ∈ cs then fget es f else none) = some d2 := h1
    split at h1
    · rename_i hc
      obtain ⟨a, dx, fs, rfl, ha, rf⟩ := ins_ok r S1 hi
      obtain ⟨v, h2, h3⟩ := rlf_get rf h1
      exact ⟨a, _, dx, fs, v, rfl, ha, (hcs c hc).1, (hcs c hc).2, h2, P2.ok S1 h3⟩
    · cases h1
/-- a step of a def, at its own slots -/
theorem run_callM {n : Nat} {f : List D → Sto → R D} {fa : Addr} {ks : List Str} {pl : List D → List D → Option (List D)} {k : Nat} {pins : List (Addr × Obj)} {σ : L2.St} {H : Hp} {s : Shared} {Q : VK} {us ws : List Value} {vs zs : List V} {W : Wd} {st : Sto} {ds es xs : List D} (c : CallOk X.prog X.w X.K X.mg X.base M f k fa n ks pl) (hr : Room k X.A) (tk : Takes X E)
    (I : L2.Inv X pins σ H s) (r : Vals vs us) (rz : Vals zs ws) (l1 : vs.length = n) (l2 : zs.length = ks.length) (S : StR X.K M W H g st) (rl : RlL X.K M W vs ds) (rlz : RlL X.K M W zs es) (hs : pl ds es = some xs) (P : Post X.K M g (Rl X.K M) (wE E σ) W Q (f xs st)) :
    wpAny (model X.prog X.w) X.A (call (.ref fa) us (ks.zip ws)) (EP X pins σ Q) X.xe s := run_callF c hr tk I r rz l1 l2 S rl rlz hs P
/-- the meaning of o.m(..) -/
def fMeth (c m : String) (fo : FE) (fs fk : FA) (pl : List D → List D → Option (List D)) (f : List D → Sto → R D) : FE := fun env s => (fo env s).bind fun x s => match insOf x s with
  | some (c', fl) => if c' = c ∧ fget fl m = none then (fs env s).bind fun vs s => (fk env s).bind fun zs s => match pl vs zs with
    | some ds => f (x :: ds) s
    | none => .no else .no
  | none => .no
theorem s_meth {c m : String} {o : Expr} {mo : ME} {es : List Expr} {kws : List Keyword} {ms mk : List ME} {f : List D → Sto → R D} {fa : Addr} {n k : Nat} {ks : List Str} {pl : List D → List D → Option (List D)} {apos pos : Pos} (hcl : Cls X.K (M.cls c)) (hm : Meth X.K (M.cls c) (sOf m) fa)
    (ck : CallOk X.prog X.w X.K X.mg X.base M f k fa (n + 1) ks (fun ds es => match ds with | x :: r => (pl r es).map (x :: ·) | [] => none)) (hr : Room k X.A) (tk : Takes X E) (hrv : recvOk o = true) (ho : PE X o (TF X.K M g (evE C mo) E))
    (hst : (es.all fun e => !isStar e) = true) (ha : PA X es (TA' X.K M g (evEs C ms) E)) (hkw : PK X kws (TA' X.K M g (evEs C mk) E)) (hks : kws.map (·.arg) = ks.map some) (hl : es.length = ms.length) (hn : ms.length = n) (hkn : mk.length = ks.length) (hfew : es.length + kws.length < 29) (hline : (apos.endLine == pos.line) = true) :
    PE X (.Call (.Attribute o (sOf m) apos) es kws pos) (TF X.K M g (fMeth c m (evE C mo) (evEs C ms) (evEs C mk) pl f) E) := by
  obtain ⟨pw, ht⟩ := recv_call (env := X.env) (apos := apos) (pos := pos) hrv (sOf m) hst hks hfew hline
  refine ⟨fun pins s σ H Q I h => ?_⟩
  obtain ⟨W, env, st, en, S, P⟩ := h
  refine PySem.W.methodCall_KW (pl := pw) (thn (ho.run pins s σ H (fun x H1 => ∃ W1 s1 d, EnvR X.K M W1 σ env ∧ StR X.K M W1 H1 g s1 ∧ Rl X.K M W1 x d ∧ Post X.K M g (Rl X.K M) (wE E σ) W1 Q (match insOf d s1 with
      | some (c', fl) => if c' = c ∧ fget fl m = none then (evEs C ms env s1).bind fun vs s => (evEs C mk env s).bind fun zs s => match pl vs zs with
        | some ds => f (d :: ds) s
        | none => .no else .no
      | none => .no)) I ⟨W, env, st, en, S, ?_⟩) fun u s1 ⟨x, H1, I1, rx, W1, st1, d, en1, S1, rd, P1⟩ => ?_) ht
  · have P : Post X.K M g (Rl X.K M) (wE E σ) W Q ((evE C mo env st).bind fun x s => match insOf x s with
      | some (c', fl) => if c' = c ∧ fget fl m = none then (evEs C ms env s).bind fun vs s => (evEs C mk env s).bind fun zs s => match pl vs zs with
        | some ds => f (x :: ds) s
        | none => .no else .no
      | none => .no) := P
    exact P.bind.imp fun v H1 ⟨d, s1, W1, L, S1, r, P1⟩ => ⟨W1, s1, d, en.mono L, S1, r, P1⟩
  · cases hi : insOf d st1 with
    | none => rw [hi] at P1; exact P1.elim
    | some p =>
      obtain ⟨c', fl⟩ := p
      rw [hi] at P1
      dsimp only at P1
      split at P1
      · rename_i hc
        obtain ⟨hc1, hc2⟩ := hc
        subst hc1
        obtain ⟨a, dx, fs, ex, hA, rf⟩ := ins_ok rd S1 hi
        subst ex
        obtain rfl : u = Value.ref a := rx
        refine getmeth_ok I1 hA hcl hm (rlf_none rf hc2) ?_
        obtain ⟨k1, k2, k3⟩ := kw_names (env := X.env) (pos := pos) hks
        have A : ∀ (us : List Value) (s2 : Shared), AP X pins σ (fun vs H2 => ∃ W2 st2 ds, EnvR X.K M W2 σ env ∧ StR X.K M W2 H2 g st2 ∧ RlL X.K M W2 vs ds ∧ Rl X.K M W2 (.ref a) d ∧ vs.length = n ∧ Post X.K M g (Rl X.K M) (wE E σ) W2 Q ((evEs C mk env st2).bind fun zs s => match pl ds zs with | some ds => f (d :: ds) s | none => .no)) us s2 →
            kws = [] → wpAny (model X.prog X.w) X.A (call (.ref fa) (.ref a :: us)) (EP X pins σ Q) X.xe s2 := fun us s2 hq hk0 => by
          subst hk0
          obtain ⟨vs, H2, I2, r2, W2, st2, ds, en2, S2, rl, rd2, l1, P2⟩ := hq
          have hks0 : ks = [] := by
            cases ks with
            | nil => rfl
            | cons _ _ => cases hks
          subst hks0
          have hmk : mk = [] := by
            cases mk with
            | nil => rfl
            | cons _ _ => cases hkn
          subst hmk
          have P2 : Post X.K M g (Rl X.K M) (wE E σ) W2 Q (match pl ds [] with | some ds => f (d :: ds) st2 | none => .no) := P2
          cases hp : pl ds [] with
          | none => rw [hp] at P2; exact P2.elim
          | some xs =>
            rw [hp] at P2
            exact run_callM (ws := []) (zs := []) (us := .ref a :: us) (vs := .ref a :: vs) (ds := d :: ds) (es := []) (xs := d :: xs) ck hr tk I2 (.cons rfl r2) .nil (by simp [l1]) rfl S2 (.cons rd2 rl) .nil (by show (pl ds []).map (d :: ·) = _; rw [hp]; rfl) P2
        have hTA : TA' X.K M g (evEs C ms) E σ H1 (fun vs H2 => ∃ W2 st2 ds, EnvR X.K M W2 σ env ∧ StR X.K M W2 H2 g st2 ∧ RlL X.K M W2 vs ds ∧ Rl X.K M W2 (.ref a) d ∧ vs.length = n ∧ Post X.K M g (Rl X.K M) (wE E σ) W2 Q ((evEs C mk env st2).bind fun zs s => match pl ds zs with | some ds => f (d :: ds) s | none => .no)) := by
          refine ⟨W1, env, st1, en1, S1, ?_⟩
          cases h1 : evEs C ms env st1 with
          | no => rw [h1] at P1; exact P1
          | ex x s1 => rw [h1] at P1; exact P1
          | ok ds s2 =>
            rw [h1] at P1
            intro W' H' vs L S' r
            exact ⟨W', s2, ds, en1.mono L, S', r, rd.mono L, by rw [r.length, evEs_len ms env st1 ds s2 h1, hn], Post.mono P1 L⟩
        match es, kws, hl, hst, ha, hkw, k1, k2, k3, A with
        | [], [], hl, hst, ha, hkw, k1, k2, k3, A =>
          refine PySem.W.callWith_K0 (first := [.ref a]) I1.kIn hm.kp ?_
          have hms : ms = [] := by
            cases ms with
            | nil => rfl
            | cons m r => cases hl
          subst hms
          exact A [] s1 ⟨[], H1, I1, .nil, W1, st1, [], en1, S1, .nil, rd, hn, P1⟩ rfl
        | e :: es, [], hl, hst, ha, hkw, k1, k2, k3, A =>
          simp only [List.all_cons, Bool.and_eq_true, Bool.not_eq_true'] at hst
          refine PySem.W.callWith_K (first := [.ref a]) (h₀ := X.base) I1.ok.mod.kin hm.kp (thn (ha.run pos pins s1 σ H1 _ I1 hTA) fun us s2 hq => ⟨?_, A us s2 hq rfl⟩) (star_cons hst.1) (star_back hst.2)
          obtain ⟨vs, H2, I2, _⟩ := hq
          exact I2.kIn
        | e :: es, kw :: kws, hl, hst, ha, hkw, k1, k2, k3, A =>
          simp only [List.all_cons, Bool.and_eq_true, Bool.not_eq_true'] at hst
          refine PySem.W.callWith_KW (first := [.ref a]) (h₀ := X.base) I1.ok.mod.kin hm.kp k1 (thn (ha.run pos pins s1 σ H1 _ I1 hTA) fun us s2 ⟨vs, H2, I2, r, W2, st2, ds, en2, S2, rl, rd2, l1, P2⟩ => ?_) (by rw [k3, star_back (by simp [hst.1, hst.2])]; rfl) (star_cons hst.1)
          refine thn (hkw.run pos pins s2 σ H2 (fun zs H3 => ∃ W3 st3 es3, StR X.K M W3 H3 g st3 ∧ RlL X.K M W3 vs ds ∧ Rl X.K M W3 (.ref a) d ∧ RlL X.K M W3 zs es3 ∧ zs.length = ks.length ∧ Post X.K M g (Rl X.K M) (wE E σ) W3 Q (match pl ds es3 with | some ds => f (d :: ds) st3 | none => .no)) I2 ⟨W2, env, st2, en2, S2, ?_⟩) fun ws s3 ⟨zs, H3, I3, rz, W3, st3, es3, S3, rl3, rd3, rlz, l2, P3⟩ => ⟨I3.kIn, ?_⟩
          · cases h1 : evEs C mk env st2 with
            | no => rw [h1] at P2; exact P2.elim
            | ex x s1 => rw [h1] at P2; exact P2
            | ok es2 s2 =>
              rw [h1] at P2
              intro W' H' vs L S' r
              exact ⟨W', s2, es2, S', rl.mono L, rd2.mono L, r, by rw [r.length, evEs_len mk env st2 es2 s2 h1, hkn], Post.mono P2 L⟩
          · rw [k2]
            cases hp : pl ds es3 with
            | none => rw [hp] at P3; exact P3.elim
            | some xs =>
              rw [hp] at P3
              exact run_callM (us := .ref a :: us) (vs := .ref a :: vs) (ds := d :: ds) (xs := d :: xs) ck hr tk I3 (.cons rfl r) rz (by simp [l1]) l2 S3 (.cons rd3 rl3) rlz (by show (pl ds es3).map (d :: ·) = _; rw [hp]; rfl) P3
        | [], kw :: kws, hl, hst, ha, hkw, k1, k2, k3, A =>
          have hms : ms = [] := by
            cases ms with
            | nil => rfl
            | cons m r => cases hl
          subst hms
          refine PySem.W.callWith_KW0 (first := [.ref a]) (h₀ := X.base) I1.ok.mod.kin hm.kp k1 ?_ (by rw [k3]; rfl)
          have P1 : Post X.K M g (Rl X.K M) (wE E σ) W1 Q ((evEs C mk env st1).bind fun zs s => match pl [] zs with | some ds => f (d :: ds) s | none => .no) := P1
          refine thn (hkw.run pos pins s1 σ H1 (fun zs H3 => ∃ W3 st3 es3, StR X.K M W3 H3 g st3 ∧ Rl X.K M W3 (.ref a) d ∧ RlL X.K M W3 zs es3 ∧ zs.length = ks.length ∧ Post X.K M g (Rl X.K M) (wE E σ) W3 Q (match pl [] es3 with | some ds => f (d :: ds) st3 | none => .no)) I1 ⟨W1, env, st1, en1, S1, ?_⟩) fun ws s3 ⟨zs, H3, I3, rz, W3, st3, es3, S3, rd3, rlz, l2, P3⟩ => ⟨I3.kIn, ?_⟩
          · cases h1 : evEs C mk env st1 with
            | no => rw [h1] at P1; exact P1.elim
            | ex x s1 => rw [h1] at P1; exact P1
            | ok es2 s2 =>
              rw [h1] at P1
              intro W' H' vs L S' r
              exact ⟨W', s2, es2, S', rd.mono L, r, by rw [r.length, evEs_len mk env st1 es2 s2 h1, hkn], Post.mono P1 L⟩
          · rw [k2]
            cases hp : pl [] es3 with
            | none => rw [hp] at P3; exact P3.elim
            | some xs =>
              rw [hp] at P3
              exact run_callM (us := [.ref a]) (vs := [.ref a]) (ds := [d]) (xs := d :: xs) ck hr tk I3 (.cons rfl .nil) rz (by have hn : 0 = n := hn; simp [← hn]) l2 S3 (.cons rd3 .nil) rlz (by show (pl [] es3).map (d :: ·) = _; rw [hp]; rfl) P3
      · exact P1.elim
/-- something new that nobody speaks of -/
theorem StR.junk {W : Wd} {H : Hp} {s : Sto} {p : Addr} {u : HO} (S : StR X.K M W H g s) (hp : H p = none) : StR X.K M W (upd H p u) g s := by
  have nb : ∀ {l}, l < W.n → W.bt l ≠ p := fun h => S.bt_ne hp h
  refine ⟨fun a v e => (S.fz a v e).upd fun q => ?_, S.len, fun l o e => (S.ob l o e).upd (nb (S.lt e)) _ .refl fun z => z, S.inj, S.base, fun a v q => ?_, fun a v q => ?_, S.lk, fun he m hg hm l o hl e => (S.old he m hg hm l o hl e).upd (nb (S.lt e)) _ .refl fun z => z, S.tb.upd (nt_none hp)⟩
  · exact (S.fz a v e).some (by rw [q]; exact hp)
  · obtain ⟨q1, q2, q3⟩ := S.fr a v q
    exact ⟨by rw [upd_ne (fun z => by rw [z, hp] at q1; cases q1)]; exact q1, q2, q3⟩
  · obtain ⟨q1, q2, q3, q4⟩ := S.lc a v q
    exact ⟨by rw [upd_ne (fun z => by rw [z, hp] at q1; cases q1)]; exact q1, q2, q3, q4⟩
theorem rl_non_of {K : PySem.W.Frag} {W : Wd} {v : V} (r : Rl K M W v .non) : v = .non := by cases r; rfl
/-- a new instance's value -/
def mkV (n : Nat) : D → Sto → R D := fun d s => match d with
  | .non => .ok (.loc n) s
  | _ => .no
theorem run_makeF {c : String} {f : List D → Sto → R D} {fa : Addr} {n k : Nat} {ks : List Str} {pl : List D → List D → Option (List D)} {pins : List (Addr × Obj)} {σ : L2.St} {H : Hp} {s : Shared} {Q : VK} {us ws : List Value} {vs zs : List V} {W : Wd} {st : Sto} {ds es xs : List D}
    (mk : Mk X.K (M.cls c) fa) (ck : CallOk X.prog X.w X.K X.mg X.base M f k fa (n + 1) ks (fun ds es => match ds with | x :: r => (pl r es).map (x :: ·) | [] => none)) (hr : Room (k + 1) X.A) (tk : Takes X E)
    (I : L2.Inv X pins σ H s) (r : Vals vs us) (rz : Vals zs ws) (l1 : vs.length = n) (l2 : zs.length = ks.length) (S : StR X.K M W H g st) (rl : RlL X.K M W vs ds) (rlz : RlL X.K M W zs es) (hs : pl ds es = some xs)
    (P : Post X.K M g (Rl X.K M) (wE E σ) W Q ((f (.loc st.ob.length :: xs) { st with ob := st.ob ++ [.ins c []] }).bind fun d s' => mkV st.ob.length d s')) :
    wpAny (model X.prog X.w) X.A (call (.ref (M.cls c)) us (ks.zip ws)) (EP X pins σ Q) X.xe s := by
  obtain ⟨fd, ps, gg, gV, F, hb, hp⟩ := ck.ex
  have hx : H (s.heap.objs.size + 1) = none := I.hok.fresh (Nat.le_succ _)
  have hdx : H s.heap.objs.size = none := I.hok.fresh (Nat.le_refl _)
  have ne : s.heap.objs.size ≠ s.heap.objs.size + 1 := Nat.ne_of_lt (Nat.lt_succ_self _)
  have S1 := S.junk (u := .own (s.heap.objs.size + 1)) hdx
  have hx1 : upd H s.heap.objs.size (.own (s.heap.objs.size + 1)) (s.heap.objs.size + 1) = none := by rw [upd_ne ne.symm]; exact hx
  have S2 := S1.addL (ho := .ins (M.cls c) s.heap.objs.size []) (o := .ins c []) hx1 (.ins .nil)
  have L : Le W (W.addL (s.heap.objs.size + 1)) := Wd.addL_le
  have self : Rl X.K M (W.addL (s.heap.objs.size + 1)) (.ref (s.heap.objs.size + 1)) (.loc st.ob.length) := by
    have z : Rl X.K M (W.addL (s.heap.objs.size + 1)) (.ref ((W.addL (s.heap.objs.size + 1)).bt W.n)) (.loc W.n) := .loc (Nat.lt_succ_self _)
    rw [Wd.addL_at] at z
    rw [S.len]
    exact z
  have I2 := Inv.made (C := M.cls c) I
  have r1 : Vals (V.ref (s.heap.objs.size + 1) :: vs) (Value.ref (s.heap.objs.size + 1) :: us) := .cons rfl r
  have r2 := hb.rel r1 rz
  have e1 : (Value.ref (s.heap.objs.size + 1) :: us).length = n + 1 := r1.length.symm.trans (congrArg Nat.succ l1)
  have e2 : ws.length = ks.length := rz.length.symm.trans l2
  have rx := hp _ _ (.loc st.ob.length :: ds) zs es (.loc st.ob.length :: xs) (.cons self (rl.mono L)) (rlz.mono L) (congrArg Nat.succ l1) (by show (pl ds es).map _ = _; rw [hs]; rfl)
  refine wpAny_call (make_map (f := fa) I.kIn mk.makes mk.init (beq_iff_eq.mp mk.fn) (codeAny_mono (F.run _ X.stack _ _ ⟨Value.ref (s.heap.objs.size + 1) :: us, ks.zip ws⟩ (gg (Value.ref (s.heap.objs.size + 1) :: us) ws) _ (fun v H2 => v = .non ∧ Q (.ref (s.heap.objs.size + 1)) H2) (wE E σ) (hr.make (M.cls c) us (ks.zip ws))
    (I2.env0.make (M.cls c) us (ks.zip ws)) (hb.to _ (Value.ref (s.heap.objs.size + 1) :: us) ws I2.kIn e1 e2) r2 ⟨g, _, _, _, S2, rx, ?_⟩) fun r s' hq' => ?_))
  · refine (P.mono L).bind.imp fun v H1 ⟨d, s1, W1, L1, S3, rv, P1⟩ => ?_
    cases d with
    | non => exact ⟨rl_non_of rv, P1.ok S3 (self.mono L1)⟩
    | _ => exact P1.elim
  · cases r with
    | error e => exact passAt tk σ pins _ _ e s' I2 hq'
    | ok fl =>
      cases fl with
      | ret u =>
        obtain ⟨v, H', I3, rv, ev, q3⟩ := I2.after hq'
        subst ev
        exact ⟨rv, ⟨V.ref (s.heap.objs.size + 1), H', I3, rfl, q3⟩⟩
      | next => exact False.elim hq'
      | brk => exact False.elim hq'
      | cont => exact False.elim hq'
/-- the meaning of C(..) -/
def fMake (c : String) (fs fk : FA) (pl : List D → List D → Option (List D)) (f : List D → Sto → R D) : FE := fun env s => (fs env s).bind fun vs s => (fk env s).bind fun zs s => match pl vs zs with
  | some ds => (f (.loc s.ob.length :: ds) { s with ob := s.ob ++ [.ins c []] }).bind fun d s' => match d with
    | .non => .ok (.loc s.ob.length) s'
    | _ => .no
  | none => .no
theorem s_make {c : String} {p pos : Pos} {es : List Expr} {kws : List Keyword} {ms mk : List ME} {f : List D → Sto → R D} {fa : Addr} {n k : Nat} {ks : List Str} {pl : List D → List D → Option (List D)} (mkC : Mk X.K (M.cls c) fa) (hm : X.mg (sOf c) = some (.ref (M.cls c)))
    (ck : CallOk X.prog X.w X.K X.mg X.base M f k fa (n + 1) ks (fun ds es => match ds with | x :: r => (pl r es).map (x :: ·) | [] => none)) (hr : Room (k + 1) X.A) (tk : Takes X E) (hg : Gl X (sOf c)) (hdb : (sOf c == ("__debug__" : Str)) = false)
    (hst : (es.all fun e => !isStar e) = true) (ha : PA X es (TA' X.K M g (evEs C ms) E)) (hkw : PK X kws (TA' X.K M g (evEs C mk) E)) (hks : kws.map (·.arg) = ks.map some) (hl : es.length = ms.length) (hn : ms.length = n) (hkn : mk.length = ks.length) :
    PE X (.Call (.Name (sOf c) p) es kws pos) (TF X.K M g (fMake c (evEs C ms) (evEs C mk) pl f) E) := by
  refine ⟨fun pins s1 σ H1 Q I1 h => ?_⟩
  refine wpAny_Call_Name_kw (ld_glob I1 hg hm ?_ hdb)
  obtain ⟨W1, env, st1, en1, S1, P1⟩ := h
  obtain ⟨k1, k2, k3⟩ := kw_names (env := X.env) (pos := pos) hks
  let G : List D → List D → Sto → R D := fun ds zs s => match pl ds zs with
    | some ds => (f (.loc s.ob.length :: ds) { s with ob := s.ob ++ [.ins c []] }).bind fun d s' => mkV s.ob.length d s'
    | none => .no
  have P1 : Post X.K M g (Rl X.K M) (wE E σ) W1 Q ((evEs C ms env st1).bind fun vs s => (evEs C mk env s).bind fun zs s => G vs zs s) := P1
  have A : ∀ (us : List Value) (s2 : Shared), AP X pins σ (fun vs H2 => ∃ W2 st2 ds, EnvR X.K M W2 σ env ∧ StR X.K M W2 H2 g st2 ∧ RlL X.K M W2 vs ds ∧ vs.length = n ∧ Post X.K M g (Rl X.K M) (wE E σ) W2 Q ((evEs C mk env st2).bind fun zs s => G ds zs s)) us s2 →
      kws = [] → wpAny (model X.prog X.w) X.A (call (.ref (M.cls c)) us) (EP X pins σ Q) X.xe s2 := fun us s2 hq hk0 => by
    subst hk0
    obtain ⟨vs, H2, I2, r2, W2, st2, ds, en2, S2, rl, l1, P2⟩ := hq
    have hks0 : ks = [] := by
      cases ks with
      | nil => rfl
      | cons _ _ => cases hks
    subst hks0
    have hmk : mk = [] := by
      cases mk with
      | nil => rfl
      | cons _ _ => cases hkn
    subst hmk
    have P2 : Post X.K M g (Rl X.K M) (wE E σ) W2 Q (G ds [] st2) := P2
    cases hp : pl ds [] with
    | none =>
      have : G ds [] st2 = .no := by show (match pl ds [] with | some _ => _ | none => R.no) = _; rw [hp]
      rw [this] at P2; exact P2.elim
    | some xs =>
      have : G ds [] st2 = (f (.loc st2.ob.length :: xs) { st2 with ob := st2.ob ++ [.ins c []] }).bind fun d s' => mkV st2.ob.length d s' := by show (match pl ds [] with | some _ => _ | none => R.no) = _; rw [hp]
      rw [this] at P2
      exact run_makeF (ws := []) (zs := []) (us := us) (vs := vs) (ds := ds) (es := []) (xs := xs) mkC ck hr tk I2 r2 .nil l1 rfl S2 rl .nil hp P2
  have hTA : TA' X.K M g (evEs C ms) E σ H1 (fun vs H2 => ∃ W2 st2 ds, EnvR X.K M W2 σ env ∧ StR X.K M W2 H2 g st2 ∧ RlL X.K M W2 vs ds ∧ vs.length = n ∧ Post X.K M g (Rl X.K M) (wE E σ) W2 Q ((evEs C mk env st2).bind fun zs s => G ds zs s)) := by
    refine ⟨W1, env, st1, en1, S1, ?_⟩
    cases h1 : evEs C ms env st1 with
    | no => rw [h1] at P1; exact P1
    | ex x s1 => rw [h1] at P1; exact P1
    | ok ds s2 =>
      rw [h1] at P1
      intro W' H' vs L S' r
      exact ⟨W', s2, ds, en1.mono L, S', r, by rw [r.length, evEs_len ms env st1 ds s2 h1, hn], Post.mono P1 L⟩
  have B : ∀ (us ws : List Value) (vs zs : List V) (ds es3 : List D) (W3 : Wd) (H3 : Hp) (st3 : Sto) (s3 : Shared), L2.Inv X pins σ H3 s3 → Vals vs us → Vals zs ws → vs.length = n → zs.length = ks.length → StR X.K M W3 H3 g st3 → RlL X.K M W3 vs ds → RlL X.K M W3 zs es3 → Post X.K M g (Rl X.K M) (wE E σ) W3 Q (G ds es3 st3) → wpAny (model X.prog X.w) X.A (call (.ref (M.cls c)) us (ks.zip ws)) (EP X pins σ Q) X.xe s3 := fun us ws vs zs ds es3 W3 H3 st3 s3 I3 r rz l1 l2 S3 rl rlz P3 => by
    cases hp : pl ds es3 with
    | none =>
      have : G ds es3 st3 = .no := by show (match pl ds es3 with | some _ => _ | none => R.no) = _; rw [hp]
      rw [this] at P3; exact P3.elim
    | some xs =>
      have : G ds es3 st3 = (f (.loc st3.ob.length :: xs) { st3 with ob := st3.ob ++ [.ins c []] }).bind fun d s' => mkV st3.ob.length d s' := by show (match pl ds es3 with | some _ => _ | none => R.no) = _; rw [hp]
      rw [this] at P3
      exact run_makeF (us := us) (vs := vs) (ds := ds) (xs := xs) mkC ck hr tk I3 r rz l1 l2 S3 rl rlz hp P3
  match es, kws, hl, hst, ha, hkw, k1, k2, k3, A with
  | [], [], hl, hst, ha, hkw, k1, k2, k3, A =>
    refine PySem.W.callWith_K0 I1.kIn mkC.kp ?_
    have hms : ms = [] := by
      cases ms with
      | nil => rfl
      | cons m r => cases hl
    subst hms
    exact A [] s1 ⟨[], H1, I1, .nil, W1, st1, [], en1, S1, .nil, hn, P1⟩ rfl
  | e :: es, [], hl, hst, ha, hkw, k1, k2, k3, A =>
    simp only [List.all_cons, Bool.and_eq_true, Bool.not_eq_true'] at hst
    refine PySem.W.callWith_K (h₀ := X.base) I1.ok.mod.kin mkC.kp (thn (ha.run pos pins s1 σ H1 _ I1 hTA) fun us s2 hq => ⟨?_, A us s2 hq rfl⟩) (star_cons hst.1) (star_back hst.2)
    obtain ⟨vs, H2, I2, _⟩ := hq
    exact I2.kIn
  | e :: es, kw :: kws, hl, hst, ha, hkw, k1, k2, k3, A =>
    simp only [List.all_cons, Bool.and_eq_true, Bool.not_eq_true'] at hst
    refine PySem.W.callWith_KW (h₀ := X.base) I1.ok.mod.kin mkC.kp k1 (thn (ha.run pos pins s1 σ H1 _ I1 hTA) fun us s2 ⟨vs, H2, I2, r, W2, st2, ds, en2, S2, rl, l1, P2⟩ => ?_) (by rw [k3, star_back (by simp [hst.1, hst.2])]; rfl) (star_cons hst.1)
    refine thn (hkw.run pos pins s2 σ H2 (fun zs H3 => ∃ W3 st3 es3, StR X.K M W3 H3 g st3 ∧ RlL X.K M W3 vs ds ∧ RlL X.K M W3 zs es3 ∧ zs.length = ks.length ∧ Post X.K M g (Rl X.K M) (wE E σ) W3 Q (G ds es3 st3)) I2 ⟨W2, env, st2, en2, S2, ?_⟩) fun ws s3 ⟨zs, H3, I3, rz, W3, st3, es3, S3, rl3, rlz, l2, P3⟩ => ⟨I3.kIn, ?_⟩
    · cases h1 : evEs C mk env st2 with
      | no => rw [h1] at P2; exact P2.elim
      | ex x s1 => rw [h1] at P2; exact P2
      | ok es2 s2 =>
        rw [h1] at P2
        intro W' H' vs L S' r
        exact ⟨W', s2, es2, S', rl.mono L, r, by rw [r.length, evEs_len mk env st2 es2 s2 h1, hkn], Post.mono P2 L⟩
    · rw [k2]
      exact B us ws vs zs ds es3 W3 H3 st3 s3 I3 r rz l1 l2 S3 rl3 rlz P3
  | [], kw :: kws, hl, hst, ha, hkw, k1, k2, k3, A =>
    have hms : ms = [] := by
      cases ms with
      | nil => rfl
      | cons m r => cases hl
    subst hms
    refine PySem.W.callWith_KW0 (h₀ := X.base) I1.ok.mod.kin mkC.kp k1 ?_ (by rw [k3]; rfl)
    have P1 : Post X.K M g (Rl X.K M) (wE E σ) W1 Q ((evEs C mk env st1).bind fun zs s => G [] zs s) := P1
    refine thn (hkw.run pos pins s1 σ H1 (fun zs H3 => ∃ W3 st3 es3, StR X.K M W3 H3 g st3 ∧ RlL X.K M W3 zs es3 ∧ zs.length = ks.length ∧ Post X.K M g (Rl X.K M) (wE E σ) W3 Q (G [] es3 st3)) I1 ⟨W1, env, st1, en1, S1, ?_⟩) fun ws s3 ⟨zs, H3, I3, rz, W3, st3, es3, S3, rlz, l2, P3⟩ => ⟨I3.kIn, ?_⟩
    · cases h1 : evEs C mk env st1 with
      | no => rw [h1] at P1; exact P1.elim
      | ex x s1 => rw [h1] at P1; exact P1
      | ok es2 s2 =>
        rw [h1] at P1
        intro W' H' vs L S' r
        exact ⟨W', s2, es2, S', r, by rw [r.length, evEs_len mk env st1 es2 s2 h1, hkn], Post.mono P1 L⟩
    · rw [k2]
      exact B [] ws [] zs [] es3 W3 H3 st3 s3 I3 .nil rz (by have hn : 0 = n := hn; simp [← hn]) l2 S3 .nil rlz P3
end
end Fn

set_option Elab.async false
set_option linter.all false
set_option maxRecDepth 100000
set_option maxHeartbeats 2000000
namespace Fn
open PySem L2 PySem.Spec PyProof.Rows
/-! Fn14c: the ghost freeze. -/
section
variable {K : PySem.W.Frag} {M : Nm} {W W' W2 : Wd} {H H' : Hp} {g : Nat → Prop} {s : Sto} {ho : HO}
theorem StR.killed {l : Nat} (S : StR K M W H g s) (hl : l < W.n) : StR K M W H g { s with ob := s.ob.set l .dead } := by
  have hne : ∃ u, H (W.bt l) = some u ∧ NT u := by
    obtain ⟨o, e⟩ := S.bt_lt hl
    have q := S.ob l o e
    cases hh : H (W.bt l) with
    | none => exact absurd hh q.some
    | some u => exact ⟨u, rfl, q.nt2 u hh⟩
  obtain ⟨u0, hu0, nu0⟩ := hne
  have set_at : ∀ {k u}, (s.ob.set l .dead)[k]? = some u → (k = l ∧ u = .dead) ∨ (k ≠ l ∧ s.ob[k]? = some u) := fun {k u} e' => by
    by_cases q : k = l
    · subst q
      rw [List.getElem?_set_self (by rw [S.len]; exact hl)] at e'
      exact .inl ⟨rfl, (Option.some.inj e').symm⟩
    · rw [List.getElem?_set_ne (Ne.symm q)] at e'
      exact .inr ⟨q, e'⟩
  refine ⟨S.fz, by show (s.ob.set l _).length = W.n; rw [List.length_set]; exact S.len, fun k u q => ?_, S.inj, S.base, S.fr, fun a u q => ?_, fun k u q => ?_, fun he m hg hm k u hk q => ?_, S.tb⟩
  · rcases set_at q with ⟨rfl, rfl⟩ | ⟨n, q⟩
    · exact .dead hu0 nu0
    · exact S.ob k u q
  · obtain ⟨q1, q2, q3, q4⟩ := S.lc a u q
    refine ⟨q1, q2, q3, fun k hk eb => ?_⟩
    by_cases z : k = l
    · subst z
      exact .inl (List.getElem?_set_self (by rw [S.len]; exact hl))
    · have e5 : (s.ob.set l .dead)[k]? = s.ob[k]? := List.getElem?_set_ne (Ne.symm z)
      rcases q4 k hk eb with h4 | ⟨o, h4⟩
      · exact .inl (e5.trans h4)
      · exact .inr ⟨o, e5.trans h4⟩
  · rcases set_at q with ⟨rfl, z⟩ | ⟨n, q⟩
    · cases z
    · exact S.lk k u q
  · rcases set_at q with ⟨rfl, rfl⟩ | ⟨n, q⟩
    · exact .dead hu0 nu0
    · exact S.old he m hg hm k u hk q
theorem StR.freeze {l : Nat} (S : StR K M W H g s) (hl : l < W.n) (h : H (W.bt l) = some ho) (nt : NT ho) (nf : ∀ od u, ho ≠ .frz od u) : ∃ W2, Le W W2 ∧ StR K M W2 H g { s with ob := s.ob.set l .dead } ∧ W2.fz (W.bt l) = some ho := by
  have S1 := S.killed hl
  cases hz : W.fz (W.bt l) with
  | some u =>
    rcases S.fz _ _ hz with z | ⟨_, od, z⟩
    · rw [h] at z; cases z
      exact ⟨W, .refl, S1, hz⟩
    · rw [h] at z; cases z
      exact absurd rfl (nf _ _)
  | none =>
    have L := Wd.addF_le (W := W) (ho := ho) hz
    have hd : ({ s with ob := s.ob.set l .dead } : Sto).ob[l]? = some .dead := List.getElem?_set_self (by rw [S.len]; exact hl)
    have nb : ∀ {W1 : Wd} {k o}, W1.fz = W.fz → k < W.n → k ≠ l → ObR K M W1 H (W.bt k) o → ObR K M (W1.addF (W.bt l) ho) H (W.bt k) o := fun {W1 k o} e1 hk hn r => by
      have L1 : Le W1 (W1.addF (W.bt l) ho) := Wd.addF_le (by rw [e1]; exact hz)
      have nz : W1.fz (W.bt k) = none → (W1.addF (W.bt l) ho).fz (W.bt k) = none := fun z => by
        show (if W.bt k = W.bt l then _ else W1.fz (W.bt k)) = none
        rw [if_neg (fun y => hn (S.inj _ _ hk hl y))]; exact z
      cases r with
      | live e r z => exact .live e (r.mono L1) (nz z)
      | lkL e r z => exact .lkL e (r.mono L1) (nz z)
      | lkD e i r z => exact .lkD e i (r.mono L1) (nz z)
      | dead e n1 => exact .dead e n1
    refine ⟨W.addF (W.bt l) ho, L, ⟨fun a u e => ?_, S1.len, fun k o e => ?_, S1.inj, S1.base, fun a u e => ?_, S1.lc, S1.lk, fun he m hg hm k o hk e => ?_, S1.tb.wd (fun a o e => (ite_some e).elim (fun e => .inr (by cases e; exact nt)) .inl) (fun a o e => .inl e) (fun a o e => .inl e)⟩, Wd.addF_at⟩
    · have e : (if a = W.bt l then _ else W.fz a) = some u := e
      by_cases y : a = W.bt l
      · rw [if_pos y] at e; cases e
        rw [y]; exact .inl h
      · rw [if_neg y] at e
        exact S.fz a u e
    · by_cases z : k = l
      · subst z
        rw [hd] at e
        cases e
        exact .dead (show H (W.bt k) = some ho from h) nt
      · exact nb rfl (S1.lt e) z (S1.ob k o e)
    · obtain ⟨q1, q2, q3⟩ := S.fr a u e
      refine ⟨q1, ?_, q3⟩
      show (if a = W.bt l then _ else W.fz a) = none
      rw [if_neg (fun y => q3 l hl y.symm)]
      exact q2
    · by_cases z : k = l
      · subst z
        rw [hd] at e
        cases e
        exact .dead (show H (W.bt k) = some ho from h) nt
      · exact nb (W1 := W.cut m) rfl (S1.lt e) z (S1.old he m hg hm k o hk e)
/-- what is shown of a freeze -/
def FzA (K : PySem.W.Frag) (M : Nm) (H : Hp) (g : Nat → Prop) (n : Nat) : Prop := ∀ (d : D) (s : Sto) (p : D × Sto) (v : V) (W : Wd), fz n d s = some p → Rl K M W v d → StR K M W H g s → ∃ W', Le W W' ∧ StR K M W' H g p.2 ∧ Rl K M W' v p.1
theorem fzL_ok {n : Nat} (A : FzA K M H g n) : ∀ (ds : List D) (s : Sto) (p : List D × Sto) (vs : List V) (W : Wd), fzL n ds s = some p → RlL K M W vs ds → StR K M W H g s → ∃ W', Le W W' ∧ StR K M W' H g p.2 ∧ RlL K M W' vs p.1
  | [], s, p, vs, W, h, r, S => by
    unfold fzL at h; cases h; cases r; exact ⟨W, .refl, S, .nil⟩
  | d :: ds, s, p, vs, W, h, r, S => by
    unfold fzL at h
    cases h1 : fz n d s with
    | none => rw [h1] at h; cases h
    | some q =>
      rw [h1] at h
      have h : (fzL n ds q.2).map (fun r => (q.1 :: r.1, r.2)) = some p := h
      cases h2 : fzL n ds q.2 with
      | none => rw [h2] at h; cases h
      | some t =>
        rw [h2] at h
        cases h
        cases r with
        | cons r rs =>
          obtain ⟨W1, L1, S1, r1⟩ := A d s q _ W h1 r S
          obtain ⟨W2, L2, S2, r2⟩ := fzL_ok A ds q.2 t _ W1 h2 (rs.mono L1) S1
          exact ⟨W2, L1.trans L2, S2, .cons (r1.mono L2) r2⟩
theorem fzF_ok {n : Nat} (A : FzA K M H g n) : ∀ (ds : List (String × D)) (s : Sto) (p : List (String × D) × Sto) (vs : List (Str × V)) (W : Wd), fzF n ds s = some p → RlF K M W vs ds → StR K M W H g s → ∃ W', Le W W' ∧ StR K M W' H g p.2 ∧ RlF K M W' vs p.1
  | [], s, p, vs, W, h, r, S => by
    unfold fzF at h; cases h; cases r; exact ⟨W, .refl, S, .nil⟩
  | (k, d) :: ds, s, p, vs, W, h, r, S => by
    unfold fzF at h
    cases h1 : fz n d s with
    | none => rw [h1] at h; cases h
    | some q =>
      rw [h1] at h
      have h : (fzF n ds q.2).map (fun r => ((k, q.1) :: r.1, r.2)) = some p := h
      cases h2 : fzF n ds q.2 with
      | none => rw [h2] at h; cases h
      | some t =>
        rw [h2] at h
        cases h
        cases r with
        | cons r rs =>
          obtain ⟨W1, L1, S1, r1⟩ := A d s q _ W h1 r S
          obtain ⟨W2, L2, S2, r2⟩ := fzF_ok A ds q.2 t _ W1 h2 (rs.mono L1) S1
          exact ⟨W2, L1.trans L2, S2, .cons (r1.mono L2) r2⟩
theorem fzK_ok {n : Nat} (A : FzA K M H g n) : ∀ (ds : List (GKey × D)) (s : Sto) (p : List (GKey × D) × Sto), fzK n ds s = some p → (∀ (vs : List (Key × V)) (W : Wd), RlK K M W vs ds → StR K M W H g s → ∃ W', Le W W' ∧ StR K M W' H g p.2 ∧ RlK K M W' vs p.1) ∧
    (∀ (vs : List (List Key × V)) (W : Wd), RlT K M W vs ds → StR K M W H g s → ∃ W', Le W W' ∧ StR K M W' H g p.2 ∧ RlT K M W' vs p.1)
  | [], s, p, h => by
    unfold fzK at h; cases h
    exact ⟨fun vs W r S => by cases r; exact ⟨W, .refl, S, .nil⟩, fun vs W r S => by cases r; exact ⟨W, .refl, S, .nil⟩⟩
  | (k, d) :: ds, s, p, h => by
    unfold fzK at h
    cases h1 : fz n d s with
    | none => rw [h1] at h; cases h
    | some q =>
      rw [h1] at h
      have h : (fzK n ds q.2).map (fun r => ((k, q.1) :: r.1, r.2)) = some p := h
      cases h2 : fzK n ds q.2 with
      | none => rw [h2] at h; cases h
      | some t =>
        rw [h2] at h
        cases h
        have ih := fzK_ok A ds q.2 t h2
        refine ⟨fun vs W r S => ?_, fun vs W r S => ?_⟩
        · cases r with
          | cons r rs =>
            obtain ⟨W1, L1, S1, r1⟩ := A d s q _ W h1 r S
            obtain ⟨W2, L2, S2, r2⟩ := ih.1 _ W1 (rs.mono L1) S1
            exact ⟨W2, L1.trans L2, S2, .cons (r1.mono L2) r2⟩
        · cases r with
          | cons r rs =>
            obtain ⟨W1, L1, S1, r1⟩ := A d s q _ W h1 r S
            obtain ⟨W2, L2, S2, r2⟩ := ih.2 _ W1 (rs.mono L1) S1
            exact ⟨W2, L1.trans L2, S2, .cons (r1.mono L2) r2⟩
theorem fz_ok : ∀ n, FzA K M H g n
  | 0 => fun d s p v W h r S => by unfold fz at h; cases h
  | n + 1 => fun d s p v W h r S => by
    have plain : (if d.lf = true then some (d, s) else none) = some p → ∃ W', Le W W' ∧ StR K M W' H g p.2 ∧ Rl K M W' v p.1 := fun h => by
      split at h
      · cases h; exact ⟨W, .refl, S, r⟩
      · cases h
    cases d with
    | loc l =>
      unfold fz at h
      dsimp only at h
      cases r with
      | loc hl =>
        split at h
        · rename_i ds hq
          cases h1 : fzL n ds s with
          | none => rw [h1] at h; cases h
          | some q =>
            rw [h1] at h; cases h
            cases S.ob l _ hq with
            | live e1 r1 z =>
              cases r1 with
              | lst r1 =>
                obtain ⟨W1, L1, S1, r2⟩ := fzL_ok (fz_ok n) ds s q _ W h1 r1 S
                have eb := L1.bt l hl
                obtain ⟨W2, L2, S2, hz⟩ := S1.freeze (ho := .lst _) (Nat.lt_of_lt_of_le hl L1.n) (by rw [eb]; exact e1) ⟨fun _ z => (nomatch z), fun _ z => (nomatch z)⟩ (fun _ _ z => (nomatch z))
                exact ⟨W2, L1.trans L2, S2, .frz (by rw [← eb]; exact hz) (.lst (r2.mono L2))⟩
        · rename_i t kvs hq
          cases h1 : fzK n kvs s with
          | none => rw [h1] at h; cases h
          | some q =>
            rw [h1] at h; cases h
            have ih := fzK_ok (fz_ok n) kvs s q h1
            cases S.ob l _ hq with
            | live e1 r1 z =>
              cases r1 with
              | dk r1 =>
                obtain ⟨W1, L1, S1, r2⟩ := ih.1 _ W r1 S
                have eb := L1.bt l hl
                obtain ⟨W2, L2, S2, hz⟩ := S1.freeze (ho := .dK _) (Nat.lt_of_lt_of_le hl L1.n) (by rw [eb]; exact e1) ⟨fun _ z => (nomatch z), fun _ z => (nomatch z)⟩ (fun _ _ z => (nomatch z))
                exact ⟨W2, L1.trans L2, S2, .frz (by rw [← eb]; exact hz) (.dk (r2.mono L2))⟩
              | dt r1 =>
                obtain ⟨W1, L1, S1, r2⟩ := ih.2 _ W r1 S
                have eb := L1.bt l hl
                obtain ⟨W2, L2, S2, hz⟩ := S1.freeze (ho := .dT _) (Nat.lt_of_lt_of_le hl L1.n) (by rw [eb]; exact e1) ⟨fun _ z => (nomatch z), fun _ z => (nomatch z)⟩ (fun _ _ z => (nomatch z))
                exact ⟨W2, L1.trans L2, S2, .frz (by rw [← eb]; exact hz) (.dt (r2.mono L2))⟩
        · rename_i c fs hq
          cases h1 : fzF n fs s with
          | none => rw [h1] at h; cases h
          | some q =>
            rw [h1] at h; cases h
            cases S.ob l _ hq with
            | live e1 r1 z =>
              cases r1 with
              | ins r1 =>
                obtain ⟨W1, L1, S1, r2⟩ := fzF_ok (fz_ok n) fs s q _ W h1 r1 S
                have eb := L1.bt l hl
                obtain ⟨W2, L2, S2, hz⟩ := S1.freeze (ho := .ins _ _ _) (Nat.lt_of_lt_of_le hl L1.n) (by rw [eb]; exact e1) ⟨fun _ z => (nomatch z), fun _ z => (nomatch z)⟩ (fun _ _ z => (nomatch z))
                exact ⟨W2, L1.trans L2, S2, .frz (by rw [← eb]; exact hz) (.ins (r2.mono L2))⟩
        · cases h
    | non => unfold fz at h; exact plain h
    | bl b => unfold fz at h; exact plain h
    | int i => unfold fz at h; exact plain h
    | str cs => unfold fz at h; exact plain h
    | tup ds => unfold fz at h; exact plain h
    | ktup ds => unfold fz at h; exact plain h
    | klst ds => unfold fz at h; exact plain h
    | frz o => unfold fz at h; exact plain h
/-- the freeze costs nothing -/
theorem s_frz {X : Cx} {E : WX} {C : Ctx} {e : Expr} {m : ME} {n : Nat} (h : PE X e (TF X.K M g (evE C m) E)) : PE X e (TF X.K M g (evE C (.frz n m)) E) := by
  refine PE.imp h fun σ H Q ⟨W, env, s, en, S, P⟩ => ⟨W, env, s, en, S, ?_⟩
  have P : Post X.K M g (Rl X.K M) (wE E σ) W Q ((evE C m env s).bind fun d s => match fz n d s with
    | some (d, s) => .ok d s
    | none => .no) := P
  refine P.bind.imp fun v H1 ⟨d, s1, W1, L, S1, r, P1⟩ => ?_
  cases hf : fz n d s1 with
  | none => rw [hf] at P1; exact P1.elim
  | some p =>
    rw [hf] at P1
    obtain ⟨W2, L2, S2, r2⟩ := fz_ok n d s1 p v W1 hf r S1
    exact P1 W2 H1 v L2 S2 r2
end
end Fn

set_option Elab.async false
set_option linter.all false
set_option maxRecDepth 100000
set_option maxHeartbeats 2000000
namespace Fn
open PySem L2 PySem.Spec PyProof.Rows
/-! Fn14d: sorted of ints, of tuples of ints, of dicts with such keys. -/
theorem ltL_cons {a b : Int} {x y : List Int} : a :: x < b :: y ↔ a < b ∨ (a = b ∧ x < y) := List.cons_lt_cons_iff
theorem ltL_irr : ∀ x : List Int, ¬ x < x
  | [], h => by cases h
  | a :: x, h => by
    rcases ltL_cons.mp h with h | ⟨_, h⟩
    · omega
    · exact ltL_irr x h
theorem ltL_tri : ∀ x y : List Int, x < y ∨ x = y ∨ y < x
  | [], [] => .inr (.inl rfl)
  | [], _ :: _ => .inl (List.nil_lt_cons _ _)
  | _ :: _, [] => .inr (.inr (List.nil_lt_cons _ _))
  | a :: x, b :: y => by
    rcases Int.lt_trichotomy a b with h | h | h
    · exact .inl (ltL_cons.mpr (.inl h))
    · rcases ltL_tri x y with q | q | q
      · exact .inl (ltL_cons.mpr (.inr ⟨h, q⟩))
      · exact .inr (.inl (by rw [h, q]))
      · exact .inr (.inr (ltL_cons.mpr (.inr ⟨h.symm, q⟩)))
    · exact .inr (.inr (ltL_cons.mpr (.inl h)))
theorem ltL_trans : ∀ {x y z : List Int}, x < y → y < z → x < z
  | [], [], _, h, _ => by cases h
  | [], _ :: _, [], _, h => by cases h
  | [], _ :: _, _ :: _, _, _ => List.nil_lt_cons _ _
  | _ :: _, [], _, h, _ => by cases h
  | _ :: _, _ :: _, [], _, h => by cases h
  | a :: x, b :: y, c :: z, h, q => by
    rcases ltL_cons.mp h with h | ⟨h1, h2⟩ <;> rcases ltL_cons.mp q with q | ⟨q1, q2⟩
    · exact ltL_cons.mpr (.inl (by omega))
    · exact ltL_cons.mpr (.inl (by omega))
    · exact ltL_cons.mpr (.inl (by omega))
    · exact ltL_cons.mpr (.inr ⟨h1.trans q1, ltL_trans h2 q2⟩)
theorem swo_key {α : Type} (k : α → List Int) : SrtO.Swo fun v u => decide (k v < k u) := by
  refine ⟨fun x y h => ?_, fun x y z h1 h2 => ?_⟩
  · have h := of_decide_eq_true h
    exact decide_eq_false fun q => ltL_irr _ (ltL_trans h q)
  · have h1 := of_decide_eq_false h1
    have h2 := of_decide_eq_false h2
    refine decide_eq_false fun q => ?_
    rcases ltL_tri (k x) (k y) with w | w | w
    · exact h2 (ltL_trans q w)
    · rw [w] at q; exact h2 q
    · exact h1 w
theorem leT_tot (a b : List Int) : (leT a b || leT b a) = true := by
  unfold leT
  rcases ltL_tri a b with h | h | h
  · have : ¬ b < a := fun q => ltL_irr _ (ltL_trans h q)
    simp [this]
  · subst h; simp [ltL_irr]
  · have : ¬ a < b := fun q => ltL_irr _ (ltL_trans h q)
    simp [this]
theorem leT_trans (a b c : List Int) (h1 : leT a b = true) (h2 : leT b c = true) : leT a c = true := by
  unfold leT at *
  simp only [Bool.not_eq_true', decide_eq_false_iff_not] at *
  intro q
  rcases ltL_tri a b with w | w | w
  · exact h2 (ltL_trans q w)
  · rw [w] at q; exact h2 q
  · exact h1 w
theorem leT_anti (a b : List Int) (h1 : leT a b = true) (h2 : leT b a = true) : a = b := by
  unfold leT at *
  simp only [Bool.not_eq_true', decide_eq_false_iff_not] at *
  rcases ltL_tri a b with w | w | w
  · exact absurd w h2
  · exact w
  · exact absurd w h1
/-- the one ascending list of the same -/
theorem sortT_uniq {l m : List (List Int)} (p : l.Perm m) (h : l.Pairwise (fun a b => leT a b = true)) : l = m.mergeSort leT :=
  List.Perm.eq_of_pairwise (le := fun a b => leT a b = true) (fun a b _ _ h1 h2 => leT_anti a b h1 h2) h (List.pairwise_mergeSort (le := leT) leT_trans leT_tot m) (p.trans (List.mergeSort_perm m leT).symm)
theorem sortI_uniq {l m : List Int} (p : l.Perm m) (h : l.Pairwise (· ≤ ·)) : l = m.mergeSort leI := by
  refine List.Perm.eq_of_pairwise (le := fun a b => leI a b = true) (fun a b _ _ h1 h2 => ?_) (h.imp fun h => decide_eq_true h) (List.pairwise_mergeSort (le := leI) (fun a b c h1 h2 => ?_) (fun a b => ?_) m) (p.trans (List.mergeSort_perm m leI).symm)
  · have h1 := of_decide_eq_true h1
    have h2 := of_decide_eq_true h2
    omega
  · have h1 := of_decide_eq_true h1
    have h2 := of_decide_eq_true h2
    exact decide_eq_true (by omega)
  · unfold leI
    rcases Int.le_total a b with h | h <;> simp [h]

/-! ### tuples of ints, as the machine compares them -/
def TupV (h : Heap) (v : Value) (ns : List Int) : Prop := ∃ (a : Addr) (o : Obj) (its : List Value) (n : Nat), v = .ref a ∧ h.get? a = some o ∧ o.cls = .type "tuple" ∧ o.data = .seq its.toArray n ∧ IntsAre its ns
section
variable {prog : Program} {w : World} {A : Around} {s : Shared}
theorem ints_len {us : List Value} {ns : List Int} (h : IntsAre us ns) : us.length = ns.length := h.length
theorem lexT {Q : Bool → Shared → Prop} : ∀ {us ws : List Value} {ns ms : List Int} (i : Nat) (fin : Bool), IntsAre us ns → IntsAre ws ms → fin = decide (ns.length < ms.length) → Q (decide (ns < ms)) s → PySem.W.KatLex prog w A true fin Q (us.zip ws) i s
  | [], [], [], [], i, fin, .nil, .nil, hf, q => PySem.W.kat_nil (by rw [hf]; exact q)
  | [], _ :: _, [], m :: ms, i, fin, .nil, .cons _ _ r, hf, q => PySem.W.kat_nil (by
      rw [hf]
      have e1 : decide (([] : List Int) < m :: ms) = true := decide_eq_true (List.nil_lt_cons _ _)
      have e2 : decide (([] : List Int).length < (m :: ms).length) = true := decide_eq_true (by simp)
      rw [e2, ← e1]; exact q)
  | _ :: _, [], n :: ns, [], i, fin, .cons _ _ r, .nil, hf, q => PySem.W.kat_nil (by
      rw [hf]
      have e1 : decide (n :: ns < ([] : List Int)) = false := decide_eq_false (by intro z; cases z)
      have e2 : decide ((n :: ns).length < ([] : List Int).length) = false := decide_eq_false (by simp)
      rw [e2, ← e1]; exact q)
  | _ :: us, _ :: ws, n :: ns, m :: ms, i, fin, .cons _ t r, .cons _ t' r', hf, q => by
    refine PySem.W.kat_cons (SeqAt.EqAt.int_int n t m t' prog w _ _ ?_)
    refine PySem.W.kat_go (fun e1 => ?_) (fun e1 => ?_)
    · have ex : n = m := by simpa using e1
      refine PySem.W.kat_yes (lexT (i + 1) fin r r' (by rw [hf]; simp) ?_)
      have : decide (n :: ns < m :: ms) = decide (ns < ms) := decide_eq_decide.mpr ⟨fun h => (ltL_cons.mp h).elim (fun h => by omega) (·.2), fun h => ltL_cons.mpr (.inr ⟨ex, h⟩)⟩
      rw [← this]; exact q
    · have ex : ¬ n = m := by simpa using e1
      have : decide (n :: ns < m :: ms) = decide (n < m) := decide_eq_decide.mpr ⟨fun h => (ltL_cons.mp h).elim id (fun h => absurd h.1 ex), fun h => ltL_cons.mpr (.inl h)⟩
      rw [this] at q
      by_cases hi : i = 0
      · subst hi
        exact PySem.W.kat_no (oneLt_int q)
      · have hb : (true && i == 0) = false := by simp [hi]
        refine PySem.W.kat_no ?_
        rw [hb]
        exact PySem.W.kat_one _ _ (PyProof.Rows.lt_int q)
theorem tup_cmp {vs : List Value} {k : Value → List Int} (hp : ∀ v ∈ vs, TupV s.heap v (k v)) : SrtO.Cmp prog w A s (tuples' true) (fun p => p.1 ∈ vs) (SrtO.lt2 fun v u => decide (k v < k u)) := by
  intro p q hm hm'
  obtain ⟨a, o, its, n, e, ho, hc, hd, hi⟩ := hp _ hm
  obtain ⟨a', o', its', n', e', ho', hc', hd', hi'⟩ := hp _ hm'
  show wpAny (model prog w) A (keyLt' (tuples' true) p.1 q.1) (fun r s' => s' = s ∧ r = decide (k p.1 < k q.1)) (fun _ _ => False) s
  generalize k p.1 = ns at hi ⊢
  generalize k q.1 = ms at hi' ⊢
  rw [e, e']
  refine PySem.W.kat_lt ho hd ho' hd' ?_
  exact lexT 0 _ (by simpa using hi) (by simpa using hi') (by rw [← hi.length, ← hi'.length]; simp) ⟨rfl, rfl⟩
theorem tup_firsts {h : Heap} {k : Value → List Int} : ∀ {vs : List Value}, (∀ v ∈ vs, TupV h v (k v)) → (∀ v ∈ vs, k v ≠ []) → ∃ fs, PySem.W.KatTups h vs fs ∧ fs.length = vs.length ∧ ∀ f ∈ fs, ∃ x t, f = Value.int x t
  | [], _, _ => ⟨[], .nil, rfl, fun f hf => by cases hf⟩
  | v :: vs, hp, hn => by
    obtain ⟨fs, h1, h2, h3⟩ := tup_firsts (vs := vs) (fun u hu => hp u (List.mem_cons_of_mem _ hu)) (fun u hu => hn u (List.mem_cons_of_mem _ hu))
    obtain ⟨a, o, its, n, rfl, ho, hc, hd, hi⟩ := hp v List.mem_cons_self
    have hne := hn _ List.mem_cons_self
    cases hk : k (.ref a) with
    | nil => exact absurd hk hne
    | cons x r =>
      rw [hk] at hi
      cases hi with
      | cons _ t hr => exact ⟨Value.int x t :: fs, .cons ho hc hd (by simp) h1, by simp [h2], fun f hf => by
          rcases List.mem_cons.mp hf with e | e
          · exact ⟨_, _, e⟩
          · exact h3 f e⟩
theorem TupV.keeps {h h' : Heap} {v : Value} {ns : List Int} (x : TupV h v ns) (k : ∀ b o, h.get? b = some o → o.cls = .type "tuple" → h'.get? b = some o) : TupV h' v ns := by
  obtain ⟨a, o, its, n, e, ho, hc, hd, hi⟩ := x
  exact ⟨a, o, its, n, e, k a o ho hc, hc, hd, hi⟩
theorem tups_sortable {a : Addr} {vs : List Value} {k : Value → List Int} (h0 : 0 < vs.length) (hp : ∀ v ∈ vs, TupV s.heap v (k v)) (hn : ∀ v ∈ vs, k v ≠ []) (ha : ∀ o, s.heap.get? a = some o → o.cls ≠ .type "tuple") : SrtO.SortableO prog w A s a vs fun v u => decide (k v < k u) := by
  intro h' keep
  have hp' : ∀ v ∈ vs, TupV h' v (k v) := fun v hm => (hp v hm).keeps fun b o e c => keep b o (fun z => by subst z; exact ha o e c) e
  obtain ⟨fs, h1, h2, h3⟩ := tup_firsts hp' hn
  refine ⟨tuples' true, fun Q E hq => ?_, tup_cmp hp'⟩
  refine PySem.W.kat_kind (T := .type "int") h1 (by omega) (fun f hm => ?_) (by rfl) ?_
  · obtain ⟨x, t, rfl⟩ := h3 f hm
    exact PySem.W.Looks.now
  · have e : (Value.type "int" != Value.type "tuple") = true := by decide +kernel
    rw [e]
    exact hq
end
/-- the ints of a tuple that stands -/
def kkH (H : Hp) (x : V) : List Int := match x with
  | .ref a => match H a with
    | some (.tup vs) => vs.filterMap fun v => match v with | .int i => some i | _ => none
    | _ => []
  | _ => []
theorem kkH_of {H : Hp} {a : Addr} {ns : List Int} (h : H a = some (.tup (ns.map V.int))) : kkH H (.ref a) = ns := by
  show (match H a with | some (.tup vs) => vs.filterMap (fun v => match v with | .int i => some i | _ => none) | _ => []) = ns
  rw [h]
  show (ns.map V.int).filterMap _ = ns
  clear h
  induction ns with
  | nil => rfl
  | cons n r ih => exact congrArg (List.cons n) ih
theorem le_of_srtd {k : V → List Int} {ys : List V} (h : SrtO.Srtd (fun v u => decide (k v < k u)) ys) : (ys.map k).Pairwise (fun a b => leT a b = true) := by
  rw [List.pairwise_map]
  exact List.Pairwise.imp (fun {a b} (h : decide (k b < k a) = false) => by unfold leT; rw [h]; rfl) h
section
variable {X : Cx}
/-- sorted(xs), a list of tuples of ints -/
def rSortT (K : PySem.W.Frag) : List V → Hp → VK → Prop := fun vs H Q => ∃ (a : Addr) (xs : List V), vs = [V.ref a] ∧ SqL K H a xs ∧ (∀ x ∈ xs, ∃ (t : Addr) (ns : List Int), x = V.ref t ∧ H t = some (.tup (ns.map V.int)) ∧ (2 ≤ xs.length → ns ≠ [])) ∧
  ∀ ys p, ys.Perm xs → (ys.map (kkH H)).Pairwise (fun a b => leT a b = true) → H p = none → Q (.ref p) (upd H p (.lst ys))
theorem tupV_of {pins : List (Addr × Obj)} {σ : L2.St} {H : Hp} {s : Shared} {t : Addr} {ns : List Int} (I : L2.Inv X pins σ H s) (h : H t = some (.tup (ns.map V.int))) : TupV s.heap (.ref t) ns := by
  obtain ⟨_, its, r, o, ho, hc, n, hd⟩ := I.hok _ _ h
  exact ⟨t, o, its, n, rfl, ho, hc, hd, ints_of_vals r⟩
where
  ints_of_vals : ∀ {ns : List Int} {us : List Value}, Vals (ns.map V.int) us → IntsAre us ns
    | [], _, .nil => .nil
    | n :: ns, _, .cons r rs => by
      obtain ⟨t, rfl⟩ := (show ∃ t, _ = Value.int n t from r)
      exact .cons _ _ (ints_of_vals rs)
theorem cr_sortT : CallR X (.builtin "sorted") (rSortT X.K) := by
  intro pins s σ H vs us Q I r h
  obtain ⟨a, xs, rfl, hs, hx, q⟩ := h
  obtain ⟨its, rv, hl, hz⟩ := I.list hs
  obtain ⟨u, rfl, ru⟩ := vals1 r
  obtain rfl : u = Value.ref a := ru
  obtain ⟨e1, e2⟩ := refs_back rv fun x m => by
    obtain ⟨t, ns, e, _⟩ := hx x m
    exact ⟨t, e⟩
  have key : ∀ v ∈ its, TupV s.heap v (kkH H (backV v)) ∧ (2 ≤ its.length → kkH H (backV v) ≠ []) := fun v hv => by
    obtain ⟨t, rfl⟩ := e2 v hv
    have hm : V.ref t ∈ xs := by rw [e1]; exact List.mem_map.mpr ⟨_, hv, rfl⟩
    obtain ⟨t', ns, e, ht, hn⟩ := hx _ hm
    cases e
    have ek : kkH H (backV (.ref t)) = ns := kkH_of ht
    rw [ek]
    exact ⟨tupV_of I ht, fun h2 => hn (by rw [e1, List.length_map]; exact h2)⟩
  refine SrtO.sorted_ord (swo_key fun v => kkH H (backV v)) hl.isList (by rw [← rv.length]; exact hz) (fun h2 h₁ b hb kk => ?_) fun out hs hb => ?_
  · refine tups_sortable (s := { s with heap := h₁ }) (by omega) (fun v hm => (key v hm).1.keeps fun b o e _ => (kk b o e).2) (fun v hm => (key v hm).2 h2) fun o e => ?_
    have e' : some o = some (seqObj "list" its.toArray 0) := e.symm.trans hb
    cases e'
    intro c
    exact absurd (Value.type.inj c) (by decide)
  · have h3 : ∀ u ∈ out, ∃ a, u = Value.ref a := fun u hu => e2 u (hb.perm.mem_iff.mp hu)
    have hd : s.heap.objs.size ≤ s.heap.objs.size + 1 := Nat.le_succ _
    have hp : (out.map backV).Perm xs := by rw [e1]; exact hb.perm.map backV
    obtain ⟨n, hn⟩ := sortedAll_at s.heap its out.toArray
    refine ⟨.ref (s.heap.objs.size + 1), upd H (s.heap.objs.size + 1) (.lst (out.map backV)), I.laid (t' := s.toks) (fun b o e => sortedAll_old e) hd ⟨?_, out, n, vals_back h3, hn⟩, rfl, q _ _ hp (le_of_srtd (SrtO.srtd_map (f := backV) hs)) (I.hok.fresh hd)⟩
    rw [hp.length_eq]
    exact hz
/-- sorted(d), the keys tuples of ints -/
def rSortDT : List V → Hp → VK → Prop := fun vs H Q => ∃ (a : Addr) (kvs : List (List Key × V)) (nss : List (List Int)), vs = [V.ref a] ∧ Rd H a (.dT kvs) ∧ kvs.map (·.1) = nss.map (fun ns : List Int => ns.map Sum.inl) ∧ (2 ≤ nss.length → ∀ ns ∈ nss, ns ≠ []) ∧
  ∀ (ys : List V) (p : Addr), (∀ y ∈ ys, ∃ (t : Addr) (ns : List Int), y = V.ref t ∧ H t = some (.tup (ns.map V.int))) → (ys.map (kkH H)).Perm nss → (ys.map (kkH H)).Pairwise (fun a b => leT a b = true) → H p = none → Q (.ref p) (upd H p (.lst ys))
theorem kt_ints {H : Hp} : ∀ {kvs : List (List Key × V)} {ks : List (List Key × Addr × Value)} {nss : List (List Int)}, KT H kvs ks → kvs.map (·.1) = nss.map (fun ns : List Int => ns.map Sum.inl) → (∀ b ∈ ks.map (fun x => x.2.1), ∃ ns : List Int, H b = some (.tup (ns.map V.int))) ∧ (ks.map fun x => kkH H (.ref x.2.1)) = nss
  | [], _, [], .nil, _ => ⟨fun b hb => (by cases hb), rfl⟩
  | [], _, _ :: _, .nil, h => by cases h
  | p :: kvs, _, [], .cons _ _, h => by cases h
  | p :: kvs, x :: ks, ns :: nss, .cons h1 r, h => by
    simp only [List.map_cons, List.cons.injEq] at h
    obtain ⟨i1, i2⟩ := kt_ints (nss := nss) r h.2
    have e1 : H x.2.1 = some (.tup (ns.map V.int)) := by
      have := h1.2.1
      rw [h.1, List.map_map] at this
      exact this
    refine ⟨fun b hb => ?_, ?_⟩
    · rcases List.mem_cons.mp hb with e | e
      · rw [e]; exact ⟨ns, e1⟩
      · exact i1 b e
    · rw [List.map_cons, i2, kkH_of e1]
theorem cr_sortDT (hcalm : X.calm = true) : CallR X (.builtin "sorted") rSortDT := by
  intro pins s σ H xs us Q I r q
  obtain ⟨a, kvs, nss, ex, hd, hks, hne, q⟩ := q
  subst ex
  obtain ⟨u, eu, rx⟩ := vals1 r
  subst eu
  cases rx
  obtain ⟨z, hs, ks, pr, o, es, ep, ho, hx, hdt, he, hn⟩ := (show ObjOk X.prog X.w H s.heap a (.dT kvs) from hd.ok I.hok)
  have l1 : es.size = ks.length := size_of_entries he
  have l2 : kvs.length = ks.length := Paired.length pr
  obtain ⟨kt1, kt2⟩ := kt_ints pr hks
  refine Calls.call_function_entry PyProof.Rows.kind_sorted PyProof.Rows.plain_sorted PyProof.Rows.entry_sorted (PyProof.Rows.args_sorted1 _) ?_
  unfold Builtin.«sorted»
  refine wpAny_bind (m := checkCount "sorted" 1 1 _) (wpAny_pure ?_)
  refine wpAny_bind (PySem.W.kdu_collect (A := X.A.in1) (kdl_raw hs hx hdt) (I.ok.hd hcalm) ho (by omega) fun h' tk acc hk it => ?_)
  have ea : acc.toList = ks.map fun x => Value.ref x.2.1 := by
    have hlen : acc.toList.length = ks.length := by rw [Array.length_toList, it.1]; exact l1
    refine List.ext_getElem? fun j => ?_
    rw [List.getElem?_map]
    cases hj : acc.toList[j]? with
    | none =>
      have := List.getElem?_eq_none_iff.mp hj
      rw [List.getElem?_eq_none (by omega)]
      rfl
    | some v =>
      obtain ⟨en, hen, hv⟩ := it.2 j v (by rw [← Array.getElem?_toList]; exact hj)
      have qe := entry_at he j
      rw [hen] at qe
      cases hb : ks[j]? with
      | none => rw [hb] at qe; cases qe
      | some b =>
        rw [hb] at qe
        have e2 : en = entryOfKey (tupleKind (mixKind X.prog X.w)) b := Option.some.inj qe
        rw [hv, e2]
        rfl
  have hal : acc.toList.length = ks.length := by rw [ea, List.length_map]
  have I1 : L2.Inv X pins σ H { s with heap := h', toks := tk } := I.kept hk
  have kv : ∀ v ∈ acc.toList, ∃ (t : Addr) (ns : List Int), v = Value.ref t ∧ H t = some (.tup (ns.map V.int)) := fun v hv => by
    rw [ea] at hv
    obtain ⟨x, h1, rfl⟩ := List.mem_map.mp hv
    obtain ⟨ns, h2⟩ := kt1 _ (List.mem_map.mpr ⟨x, h1, rfl⟩)
    exact ⟨_, ns, rfl, h2⟩
  have ek : acc.toList.map (fun v => kkH H (backV v)) = nss := by
    rw [ea, List.map_map, ← kt2]
    rfl
  refine wpAny_bind (wpAny_newList ?_ (by omega))
  have hoL : (h'.push (seqObj "list" acc.toList.toArray 0)).get? h'.objs.size = some (seqObj "list" acc.toList.toArray 0) := Heap.get?_push_size _ rfl
  have keep : ∀ b o, h'.get? b = some o → (h'.push (seqObj "list" acc.toList.toArray 0)).get? b = some o := fun b o e => Heap.get?_push_of_some _ e
  show wpAny _ _ _ _ _ { s with heap := h'.push (seqObj "list" acc.toList.toArray 0), toks := tk }
  refine wpAny_bind (wpAny_holding (wpAny_call_entry PyProof.Rows.slot_list_sort ⟨_, hoL, rfl⟩ PyProof.Rows.entry_list_sort
    (SrtO.list_sort_ord (s := { s with heap := h'.push (seqObj "list" acc.toList.toArray 0), toks := tk }) (swo_key fun v => kkH H (backV v)) hoL (by omega) (fun h2 => ?_) fun out hso hst => ⟨_, rfl, ?_⟩) (PyProof.Rows.args_list_sort _)))
  · have hp : ∀ v ∈ acc.toList, TupV (h'.push (seqObj "list" acc.toList.toArray 0)) v (kkH H (backV v)) := fun v hv => by
      obtain ⟨t, ns, rfl, ht⟩ := kv v hv
      rw [show kkH H (backV (.ref t)) = ns from kkH_of ht]
      exact (tupV_of I1 ht).keeps fun b o e _ => keep b o e
    refine tups_sortable (by omega) hp (fun v hv => ?_) fun o e => ?_
    · have : kkH H (backV v) ∈ nss := by rw [← ek]; exact List.mem_map.mpr ⟨v, hv, rfl⟩
      refine hne ?_ _ this
      rw [← ek, List.length_map]; exact h2
    · have e' : some o = some (seqObj "list" acc.toList.toArray 0) := e.symm.trans hoL
      cases e'
      intro c
      exact absurd (Value.type.inj c) (by decide)
  · have h3 : ∀ u ∈ out, ∃ a, u = Value.ref a := fun u hu => by
      obtain ⟨t, ns, e, _⟩ := kv u (hst.perm.mem_iff.mp hu)
      exact ⟨t, e⟩
    have hp : (out.map backV).Perm (acc.toList.map backV) := hst.perm.map backV
    obtain ⟨n, hn2⟩ := PyProof.Rows.sortedHeap_at (vs := acc.toList) (out := out.toArray) hoL
    refine wpAny_pure ⟨_, rfl, .ref h'.objs.size, upd H h'.objs.size (.lst (out.map backV)), I1.laid (t' := tk) (fun b u e => ?_) (Nat.le_refl _) ⟨?_, out, n, vals_back h3, hn2⟩, rfl, q _ _ (fun y hy => ?_) ?_ (le_of_srtd (SrtO.srtd_map (f := backV) hso)) (I1.hok.fresh (Nat.le_refl _))⟩
    · have hb : b < h'.objs.size := Heap.lt_size e
      rw [PyProof.Rows.sortedHeap_old (Nat.ne_of_lt hb) (by rw [size_push']; exact Nat.lt_succ_of_lt hb)]
      exact Heap.get?_push_of_some _ e
    · rw [hp.length_eq, List.length_map, hal, ← l2]
      exact z
    · obtain ⟨v, h1, rfl⟩ := List.mem_map.mp hy
      obtain ⟨t, ns, e, ht⟩ := kv v (hst.perm.mem_iff.mp h1)
      subst e
      exact ⟨t, ns, rfl, ht⟩
    · have := hp.map (kkH H)
      rw [List.map_map (f := backV) (g := kkH H) (l := acc.toList)] at this
      rw [← ek]
      exact this
end
end Fn

set_option Elab.async false
set_option linter.all false
set_option maxRecDepth 100000
set_option maxHeartbeats 2000000
namespace Fn
open PySem L2 PySem.Spec PyProof.Rows
/-! Fn14e: the built-in sorted. -/
section
variable {X : Cx} {M : Nm} {g : Nat → Prop}
abbrev tD (t : List Int) : D := .tup (t.map .int)
theorem ints_tup : ∀ {ns : List Int} {W : Wd}, RlL X.K M W (ns.map V.int) (ns.map D.int)
  | [], _ => .nil
  | _ :: _, _ => .cons .int ints_tup
/-- tuples of ints that stand -/
theorem asFs {H : Hp} {s : Sto} : ∀ (ys : List V) {W : Wd}, StR X.K M W H g s → (∀ y ∈ ys, ∃ (t : Addr) (ns : List Int), y = V.ref t ∧ H t = some (.tup (ns.map V.int))) → ∃ W', Le W W' ∧ StR X.K M W' H g s ∧ RlL X.K M W' ys ((ys.map (kkH H)).map tD)
  | [], W, S, _ => ⟨W, .refl, S, .nil⟩
  | y :: ys, W, S, h => by
    obtain ⟨t, ns, rfl, ht⟩ := h y List.mem_cons_self
    obtain ⟨W1, L1, S1, hz⟩ := S.asF ht
    obtain ⟨W2, L2, S2, r⟩ := asFs ys S1 fun z hz => h z (List.mem_cons_of_mem _ hz)
    refine ⟨W2, L1.trans L2, S2, ?_⟩
    rw [List.map_cons, List.map_cons, kkH_of ht]
    exact .cons (.tup (L2.fz _ _ hz) ints_tup) r
theorem rl_intsW {W : Wd} : ∀ {vs : List V} {ds : List D} {ns : List Int}, RlL X.K M W vs ds → intsOf ds = some ns → vs = ns.map V.int
  | _, _, _, .nil, h => by cases h; rfl
  | _, _, _, .cons (d := d) r rs, h => by
    cases r with
    | int =>
      unfold intsOf at h
      obtain ⟨ms, h1, rfl⟩ := Option.map_eq_some_iff.mp h
      rw [rl_intsW rs h1]
      rfl
    | _ => simp [intsOf] at h
theorem rl_tupsV {W : Wd} {H : Hp} {s : Sto} (S : StR X.K M W H g s) : ∀ {vs : List V} {ds : List D} {ts : List (List Int)}, RlL X.K M W vs ds → tupsOf ds = some ts → vs.length = ts.length ∧ vs.map (kkH H) = ts ∧ ∀ y ∈ vs, ∃ (t : Addr) (ns : List Int), y = V.ref t ∧ H t = some (.tup (ns.map V.int)) ∧ ns ∈ ts
  | _, _, _, .nil, h => by cases h; exact ⟨rfl, rfl, fun y hy => (by cases hy)⟩
  | _, _, _, .cons (d := d) r rs, h => by
    cases r with
    | @tup a us es hz rl =>
      unfold tupsOf at h
      cases h1 : intsOf es with
      | none => rw [h1] at h; simp at h
      | some ns =>
        rw [h1] at h
        rename_i vs' ds'
        cases h2 : tupsOf ds' with
        | none => rw [h2] at h; cases h
        | some ms =>
          rw [h2] at h
          cases h
          have e1 := rl_intsW rl h1
          subst e1
          have e2 : H a = some (.tup (ns.map V.int)) := rdx_tup (S.fz _ _ hz)
          obtain ⟨i1, i2, i3⟩ := rl_tupsV S rs h2
          refine ⟨by simp [i1], by rw [List.map_cons, i2, kkH_of e2], fun y hy => ?_⟩
          rcases List.mem_cons.mp hy with e | e
          · exact ⟨a, ns, e, e2, List.mem_cons_self⟩
          · obtain ⟨t, n, q1, q2, q3⟩ := i3 y e
            exact ⟨t, n, q1, q2, List.mem_cons_of_mem _ q3⟩
    | _ => simp [tupsOf] at h
theorem keysK_ints : ∀ {es : List (GKey × D)} {W : Wd} {kvs : List (Key × V)} {ns : List Int}, RlK X.K M W kvs es → intsOf (es.map (·.1.d)) = some ns → kvs.map (·.1) = ns.map Sum.inl
  | _, _, _, _, .nil, h => by cases h; rfl
  | _, _, _, _, .cons (k := k) r rs, h => by
    cases k with
    | i n =>
      have h : (intsOf _).map (n :: ·) = some _ := h
      obtain ⟨ms, h1, rfl⟩ := Option.map_eq_some_iff.mp h
      rw [List.map_cons, keysK_ints rs h1]
      rfl
    | s cs => cases h
theorem kd_ints : ∀ {ks : List Ky} {ns : List Int}, intsOf (ks.map Ky.d) = some ns → ks.map Ky.k = ns.map Sum.inl
  | [], _, h => by cases h; rfl
  | .i n :: r, _, h => by
    have h : (intsOf _).map (n :: ·) = some _ := h
    obtain ⟨ms, h1, rfl⟩ := Option.map_eq_some_iff.mp h
    rw [List.map_cons, kd_ints h1]
    rfl
  | .s _ :: _, _, h => by cases h
theorem keys_tups : ∀ {es : List (GKey × D)} {W : Wd} {kvs : List (List Key × V)} {ts : List (List Int)}, RlT X.K M W kvs es → tupsOf (es.map (·.1.d)) = some ts → kvs.map (·.1) = ts.map (fun ns : List Int => ns.map Sum.inl)
  | _, _, _, _, .nil, h => by cases h; rfl
  | _, _, _, _, .cons (k := k) (ds := ds') r rs, h => by
    have h : (match intsOf (k.map Ky.d), tupsOf (ds'.map (·.1.d)) with | some t, some ts => some (t :: ts) | _, _ => none) = some _ := h
    cases h1 : intsOf (k.map Ky.d) with
    | none => rw [h1] at h; cases h
    | some n =>
      cases h2 : tupsOf (ds'.map (·.1.d)) with
      | none => rw [h1, h2] at h; cases h
      | some ms =>
        rw [h1, h2] at h
        cases h
        rw [List.map_cons, List.map_cons, keys_tups rs h2, kd_ints h1]
theorem keysT_noint : ∀ {es : List (GKey × D)} {W : Wd} {kvs : List (List Key × V)} {ns : List Int}, RlT X.K M W kvs es → intsOf (es.map (·.1.d)) = some ns → es = []
  | _, _, _, _, .nil, h => rfl
  | _, _, _, _, .cons (k := k) r rs, h => by cases h
theorem keysK_notup : ∀ {es : List (GKey × D)} {W : Wd} {kvs : List (Key × V)} {ts : List (List Int)}, RlK X.K M W kvs es → tupsOf (es.map (·.1.d)) = some ts → es = []
  | _, _, _, _, .nil, h => rfl
  | _, _, _, _, .cons (k := k) r rs, h => by
    exfalso
    revert h
    cases k <;> exact fun h => (by cases h)
theorem b_sorted {m : Bool} (hc : X.calm = true) : CallR X (.builtin "sorted") (rN X.K M g (bltE .sorted m)) := by
  refine callImp (callOr (callOr cr_sortedI cr_sortT) (callOr (call_sortedDI hc) (cr_sortDT hc))) fun vs H Q ⟨W, s, ds, E, S, r, P⟩ => ?_
  match ds, r, P with
  | [], r, P => exact P.elim
  | _ :: _ :: _, r, P => exact P.elim
  | [d], r, P =>
    obtain ⟨v, rfl, rv⟩ := one_rl r
    have P : Post X.K M g (Rl X.K M) E W Q (match srtItems d s with
      | some ds => match sortD ds with
        | some es => mkLst m es s
        | none => .no
      | none => .no) := P
    cases h1 : srtItems d s with
    | none => rw [h1] at P; exact P.elim
    | some items =>
      rw [h1] at P
      dsimp only at P
      cases h2 : sortD items with
      | none => rw [h2] at P; exact P.elim
      | some es =>
        rw [h2] at P
        unfold mkLst at P
        dsimp only at P
        split at P
        case isFalse => exact P.elim
        case isTrue hlen =>
        unfold srtItems at h1
        have tups : ∀ {ts : List (List Int)}, intsOf items = none → tupsOf items = some ts → (2 ≤ ts.length → ∀ n ∈ ts, n ≠ []) ∧ es = (ts.mergeSort leT).map tD := fun {ts} q1 q2 => by
          unfold sortD at h2
          rw [q1, q2] at h2
          dsimp only at h2
          split at h2
          · rename_i hc
            cases h2
            refine ⟨fun h n hn z => ?_, rfl⟩
            rcases hc with hc | hc
            · omega
            · have := List.all_eq_true.mp hc n hn
              rw [z] at this
              cases this
          · cases h2
        have intsE : ∀ {ns : List Int}, intsOf items = some ns → es = (ns.mergeSort leI).map D.int := fun {ns} q => by
          unfold sortD at h2
          rw [q] at h2
          cases h2; rfl
        have fin : ∀ (ys : List V) (p : Addr) (ts : List (List Int)), (∀ y ∈ ys, ∃ (t : Addr) (ns : List Int), y = V.ref t ∧ H t = some (.tup (ns.map V.int))) → (ys.map (kkH H)).Perm ts → (ys.map (kkH H)).Pairwise (fun a b => leT a b = true) → es = (ts.mergeSort leT).map tD → H p = none → Q (.ref p) (upd H p (.lst ys)) := fun ys p ts hy hp hs he hn => by
          obtain ⟨W1, L1, S1, r1⟩ := asFs ys S hy
          rw [sortT_uniq hp hs, ← he] at r1
          exact (Post.mono P L1).mk S1 (.lst r1) hn
        cases hd : dctOf d s with
        | none =>
          rw [hd] at h1
          obtain ⟨a, xs, rfl, hq, rl⟩ := lst_ok rv S h1
          cases q1 : intsOf items with
          | some ns =>
            have e1 := rl_intsW rl q1
            subst e1
            refine .inl (.inl ⟨a, ns, rfl, hq, fun ns' p hp hs hn => ?_⟩)
            have e2 := intsE q1
            rw [← sortI_uniq hp hs] at e2
            subst e2
            exact P.mk S (.lst ints_tup) hn
          | none =>
            cases q2 : tupsOf items with
            | none =>
              unfold sortD at h2
              rw [q1, q2] at h2
              cases h2
            | some ts =>
              obtain ⟨t1, t2⟩ := tups q1 q2
              obtain ⟨i1, i2, i3⟩ := rl_tupsV S rl q2
              refine .inl (.inr ⟨a, xs, rfl, hq, fun x hx => ?_, fun ys p hp hs hn => fin ys p ts (fun y hy => ?_) ?_ hs t2 hn⟩)
              · obtain ⟨t, ns, z1, z2, z3⟩ := i3 x hx
                exact ⟨t, ns, z1, z2, fun h => t1 (by omega) ns z3⟩
              · obtain ⟨t, ns, z1, z2, z3⟩ := i3 y (hp.mem_iff.mp hy)
                exact ⟨t, ns, z1, z2⟩
              · rw [← i2]; exact hp.map _
        | some tk =>
          obtain ⟨t, kvs⟩ := tk
          rw [hd] at h1
          dsimp only at h1
          split at h1
          case isFalse => cases h1
          case isTrue hsm =>
          cases h1
          obtain ⟨a, rfl, hh⟩ := dct_ok rv S hd
          cases q1 : intsOf (kvs.map (·.1.d)) with
          | some ns =>
            have e2 := intsE q1
            have okD : ∀ {kv : List (Key × V)}, RdX H a (.dK kv) → RlK X.K M W kv kvs → kvs.length < 64 → _ := fun {kv} z2 z3 hsm => by
              have e3 := keysK_ints z3 q1
              refine (show (∃ (a_1 : Addr) (kvs : List (Key × V)) (ks : List Int), [V.ref a] = [V.ref a_1] ∧ Rd H a_1 (.dK kvs) ∧ kvs.map (·.1) = ks.map Sum.inl ∧ ks.length < 64 ∧ ∀ (ys : List Int) (p : Addr), ys.Perm ks → ys.Pairwise (· ≤ ·) → H p = none → Q (.ref p) (upd H p (.lst (ys.map V.int)))) from ⟨a, kv, ns, rfl, z2.rd, e3, ?_, fun ns' p hp hs hn => ?_⟩)
              · have := congrArg List.length e3
                rw [List.length_map, List.length_map, z3.length] at this
                omega
              · rw [← sortI_uniq hp hs] at e2
                subst e2
                exact P.mk S (.lst ints_tup) hn
            rcases hh with ⟨rfl, kv, z2, z3⟩ | ⟨rfl, kv, z2, z3⟩
            · exact .inr (.inl (okD z2 z3 (hsm.resolve_left (by decide))))
            · have := keysT_noint z3 q1
              subst this
              cases z3
              have e5 : ns = [] := by cases q1; rfl
              subst e5
              refine .inr (.inr ⟨a, [], [], rfl, z2.rd, rfl, fun h => absurd h (by simp), fun ys p hy hp hs hn => ?_⟩)
              have : ys = [] := by
                have := hp.length_eq
                simpa using this
              subst this
              have e6 : es = [] := by rw [e2]; simp
              subst e6
              exact P.mk S (.lst .nil) hn
          | none =>
            cases q2 : tupsOf (kvs.map (·.1.d)) with
            | none =>
              unfold sortD at h2
              rw [q1, q2] at h2
              cases h2
            | some ts =>
              obtain ⟨t1, t2⟩ := tups q1 q2
              rcases hh with ⟨rfl, kv, z2, z3⟩ | ⟨rfl, kv, z2, z3⟩
              · have := keysK_notup z3 q2
                subst this
                cases q1
              · refine .inr (.inr ⟨a, kv, ts, rfl, z2.rd, keys_tups z3 q2, t1, fun ys p hy hp hs hn => fin ys p ts hy hp hs t2 hn⟩)
end
end Fn

set_option Elab.async false
set_option linter.all false
set_option maxRecDepth 100000
set_option maxHeartbeats 2000000
namespace Fn
open PySem L2 PySem.Spec PyProof.Rows
/-! Fn14f: exceptions are raised. -/
def nmOk (f : Str) : Bool := !(f == ("__debug__" : Str)) && !(f == ("__classdict__" : Str))
/-- self.f = f -/
def asgB (st : Stmt) (f : Str) : Bool := match st with
  | .Assign ts e _ => (match ts with
    | [t] => (match t with
      | .Attribute o f' _ => (match o with
        | .Name s' _ => (match e with
          | .Name g _ => decide (s' = "self") && decide (f' = f) && decide (g = f) && nmOk f
          | _ => false)
        | _ => false)
      | _ => false)
    | _ => false)
  | _ => false
theorem asgB_ok {st : Stmt} {f : Str} (h : asgB st f = true) : (∃ p1 p2 p3 pos, st = .Assign [.Attribute (.Name "self" p1) f p2] (.Name f p3) pos) ∧ (f == ("__debug__" : Str)) = false ∧ (f == ("__classdict__" : Str)) = false := by
  unfold asgB at h
  split at h
  · split at h
    · split at h
      · split at h
        · split at h
          · simp only [nmOk, Bool.and_eq_true, decide_eq_true_eq, Bool.not_eq_true'] at h
            obtain ⟨⟨⟨rfl, rfl⟩, rfl⟩, h1, h2⟩ := h
            exact ⟨⟨_, _, _, _, rfl⟩, h1, h2⟩
          · cases h
        · cases h
      · cases h
    · cases h
  · cases h
/-- self.f = f, for each parameter but the first -/
def initB : List Str → List Stmt → Bool
  | [s, f], [a] => decide (s = "self") && asgB a f
  | [s, f, h], [a, b] => decide (s = "self") && asgB a f && asgB b h && decide (f ≠ h)
  | _, _ => false
/-- the promise of such an __init__ -/
def spI (K : PySem.W.Frag) (fs : List Str) : L2.Sp := fun vs H Q _ => ∃ (a C : Addr) (ys : List V), vs = .ref a :: ys ∧ ys.length = fs.length ∧ OexC K C ∧ (∀ f ∈ fs, PySem.W.findIn K (.ref C) f = some none) ∧ H a = some (exo a C none) ∧
  ∀ dx H', H dx = none → dx ≠ a → H' a = some (exo a C (some dx)) → H' dx = some (exd dx (fs.zip ys).reverse) → (∀ b, b ≠ a → b ≠ dx → H' b = H b) → Q .non H'
section
variable {P : Program} {w : World} {K : PySem.W.Frag} {mg : Str → Option Value} {base : Heap} {x qual : Str} {params : Arguments} {body : List Stmt} {scope : Scope} {fI : Addr} {fd : FuncData} {k : Nat}
theorem init_ok {ps : List Str} (F : FunD K x qual params body scope [] [] fI fd) (S : FnScope ps ps scope) (hb : initB ps body = true) : FnOk P w K mg base (L2.CX P w) (k + 1) fI fd ps (spI K ps.tail) := by
  have vis : ∀ {y : Str}, y ∈ ps → Vis scope y := fun hy => (S.par _ hy).elim (fun z => .inl z) (fun z => .inr (.inl z))
  match ps, body, hb with
  | [s, f], [st], hb =>
    simp only [initB, Bool.and_eq_true, decide_eq_true_eq] at hb
    obtain ⟨rfl, hb⟩ := hb
    obtain ⟨⟨p1, p2, p3, pos, rfl⟩, n1, n2⟩ := asgB_ok hb
    refine F.ok S (fun vs H Q E ⟨a, C, ys, e, hl, _⟩ => by rw [e]; simp [hl]) fun cdv A outer s H vs Q E hr ⟨a, C, ys, e, hl, T, hf, ha, q⟩ => ?_
    subst e
    match ys, hl, q with
    | [y], hl, q =>
      refine ⟨_, pss_one (ps_ost (pe_var (i := 0) rfl (vis (by simp)) (by decide) (by decide)) (pe_var (i := 1) rfl (vis (by simp)) n1 n2)), ?_⟩
      exact ⟨y, rfl, .ref a, rfl, a, C, rfl, T, hf _ (by simp), .inl ⟨ha, fun dx hd hne => q dx _ hd hne upd_same (by rw [upd_ne hne]; exact upd_same) fun b h1 h2 => by rw [upd_ne h1, upd_ne h2]⟩⟩
  | [s, f, h], [s1, s2], hb =>
    simp only [initB, Bool.and_eq_true, decide_eq_true_eq] at hb
    obtain ⟨⟨⟨rfl, hb1⟩, hb2⟩, hne2⟩ := hb
    obtain ⟨⟨p1, p2, p3, pos, rfl⟩, n1, n2⟩ := asgB_ok hb1
    obtain ⟨⟨q1, q2, q3, pos2, rfl⟩, m1, m2⟩ := asgB_ok hb2
    refine F.ok S (fun vs H Q E ⟨a, C, ys, e, hl, _⟩ => by rw [e]; simp [hl]) fun cdv A outer s H vs Q E hr ⟨a, C, ys, e, hl, T, hf, ha, q⟩ => ?_
    subst e
    match ys, hl, q with
    | [y, z], hl, q =>
      refine ⟨_, pss_cons (ps_ost (pe_var (i := 0) rfl (vis (by simp)) (by decide) (by decide)) (pe_var (i := 1) rfl (vis (by simp)) n1 n2)) (pss_one (ps_ost (pe_var (i := 0) rfl (vis (by simp)) (by decide) (by decide)) (pe_var (i := 2) rfl (vis (by simp)) m1 m2))), ?_⟩
      refine ⟨y, rfl, .ref a, rfl, a, C, rfl, T, hf _ (by simp), .inl ⟨ha, fun dx hd hne => ?_⟩⟩
      refine ⟨z, rfl, .ref a, rfl, a, C, rfl, T, hf _ (by simp), .inr ⟨dx, _, upd_same, by rw [upd_ne hne]; exact upd_same, by simp, ?_⟩⟩
      refine q dx _ hd hne (by rw [upd_ne (Ne.symm hne)]; exact upd_same) upd_same fun b h1 h2 => by rw [upd_ne h2, upd_ne h1, upd_ne h2]
end
/-- an exception class: without an __init__, or with one of these -/
inductive ExcOk (P : Program) (w : World) (K : PySem.W.Frag) (mg : Str → Option Value) (base : Heap) (M : Nm) (k : Nat) (c : String) : List String → Prop
  | bare (h : PySem.W.excIn K (M.cls c) He.veBase "ValueError.__new__" = true) (hk : PySem.W.keepIn K (.ref (M.cls c)) = true) (hs : PySem.W.subIn K (.ref (M.cls c)) (.type "BaseException") = some true) (ht : PySem.W.typeIn K (.ref (M.cls c)) = some (.type "type")) : ExcOk P w K mg base M k c []
  | full {fs : List String} {fI : Addr} {fd : FuncData} (hne : fs ≠ []) (T : OexC K (M.cls c)) (hi : PySem.W.findIn K (.ref (M.cls c)) "__init__" = some (some (.ref fI))) (ht : PySem.W.typeIn K (.ref fI) = some (.type "function"))
      (F : FnOk P w K mg base (L2.CX P w) k fI fd ("self" :: fs.map sOf) (spI K (fs.map sOf))) (hb : Binds K fd ("self" :: fs.map sOf) []) (hn : ∀ f ∈ fs, PySem.W.findIn K (.ref (M.cls c)) (sOf f) = some none) : ExcOk P w K mg base M k c fs
end Fn

set_option Elab.async false
set_option linter.all false
set_option maxRecDepth 100000
set_option maxHeartbeats 2000000
namespace Fn
open PySem L2 PySem.Spec PyProof.Rows
/-! Fn14g: methods of lists. -/
section
variable {X : Cx} {M : Nm} {g : Nat → Prop} {E : WX} {C : Ctx}
/-- what an object's change makes of the state -/
theorem put_lst {W : Wd} {H : Hp} {s : Sto} {l : Nat} {ds : List D} {v : V} {d : D} {vs : List V} {ds' : List D} {vs' : List V} (S : StR X.K M W H g s) (e : s.ob[l]? = some (.lst ds)) (hv : H (W.bt l) = some (.lst vs))
    (hr : ∀ {W' : Wd}, RlL X.K M W' vs ds → Rl X.K M W' v d → RlL X.K M W' vs' ds') (rd : Rl X.K M W v d) : StR X.K M W (upd H (W.bt l) (.lst vs')) g (s.put l (.lst ds') d) := by
  cases S.ob l _ e with
  | live e1 r z =>
    rw [hv] at e1
    cases e1
    cases r with
    | lst r =>
      refine S.put e z (.lst (hr r rd)) (fun hl m => .inr fun ho h1 h2 => ?_) ⟨_, hv, fun m q => ?_⟩
      · rw [hv] at h1
        cases h1
        cases h2 with
        | lst h2 => exact .lst (hr h2 (rd.cut hl))
      · cases q with
        | live e1 r1 z1 =>
          rw [hv] at e1
          cases e1
          exact r1
theorem loc_lst {W : Wd} {H : Hp} {s : Sto} {l : Nat} {ds : List D} (S : StR X.K M W H g s) (e : s.ob[l]? = some (.lst ds)) : ∃ vs, H (W.bt l) = some (.lst vs) ∧ RlL X.K M W vs ds := by
  cases S.ob l _ e with
  | live e1 r z => cases r with | lst r => exact ⟨_, e1, r⟩
/-- what a method of a built-in type makes of its receiver -/
def rM (K : PySem.W.Frag) (M : Nm) (g : Nat → Prop) (b : Bme) (m : Bool) : V → List V → Hp → VK → Prop := fun x xs H Q => ∃ W s d ds E, StR K M W H g s ∧ Rl K M W x d ∧ RlL K M W xs ds ∧ Post K M g (Rl K M) E W Q (bmeE b m d ds s)
theorem mtImp {id : String} {r r' : V → List V → Hp → VK → Prop} (h : MtR X id r) (i : ∀ x xs H Q, r' x xs H Q → r x xs H Q) : MtR X id r' := fun pins s σ H x xs v us Q I rx rv q => h pins s σ H x xs v us Q I rx rv (i _ _ _ _ q)
theorem two_rlM {W : Wd} {vs : List V} {a b : D} (r : RlL X.K M W vs [a, b]) : ∃ v u, vs = [v, u] ∧ Rl X.K M W v a ∧ Rl X.K M W u b := by
  cases r with
  | cons r rs =>
    obtain ⟨u, rfl, ru⟩ := one_rl rs
    exact ⟨_, u, rfl, r, ru⟩
theorem loc_of_rl {W : Wd} {x : V} {l : Nat} (r : Rl X.K M W x (.loc l)) : x = .ref (W.bt l) := by cases r; rfl
theorem m_append {m : Bool} : MtR X "list.append" (rM X.K M g .append m) := by
  refine mtImp mt_append fun x xs H Q ⟨W, s, d, ds, E, S, rx, r, P⟩ => ?_
  simp only [bmeE] at P
  split at P
  · rename_i l y
    obtain ⟨v, rfl, rv⟩ := one_rl r
    split at P
    · rename_i es he
      split at P
      · rename_i hl
        obtain ⟨vs, hv, rl⟩ := loc_lst S he
        refine ⟨W.bt l, vs, v, loc_of_rl rx, rfl, hv, by rw [rl.length]; exact hl, ?_⟩
        exact P W _ _ .refl (put_lst S he hv (fun h1 h2 => h1.append (.cons h2 .nil)) rv) .non
      · exact P.elim
    · exact P.elim
  · exact P.elim
theorem m_insert {m : Bool} : MtR X "list.insert" (rM X.K M g .insert m) := by
  refine mtImp mt_insert fun x xs H Q ⟨W, s, d, ds, E, S, rx, r, P⟩ => ?_
  simp only [bmeE] at P
  split at P
  · rename_i l i y
    obtain ⟨u, v, rfl, ru, rv⟩ := two_rlM r
    cases ru
    split at P
    · rename_i es he
      split at P
      · rename_i hl
        obtain ⟨vs, hv, rl⟩ := loc_lst S he
        refine ⟨W.bt l, vs, i, v, loc_of_rl rx, rfl, hv, by rw [rl.length]; exact hl.1, hl.2.1, by omega, ?_⟩
        refine P W _ _ .refl (put_lst S he hv (fun h1 h2 => ?_) rv) .non
        rw [List.append_assoc]
        exact (h1.take _).append (.cons h2 (h1.drop _))
      · exact P.elim
    · exact P.elim
  · exact P.elim
theorem m_reverse {m : Bool} : MtR X "list.reverse" (rM X.K M g .reverse m) := by
  refine mtImp mt_reverse fun x xs H Q ⟨W, s, d, ds, E, S, rx, r, P⟩ => ?_
  simp only [bmeE] at P
  split at P
  · rename_i l
    cases r
    split at P
    · rename_i es he
      obtain ⟨vs, hv, rl⟩ := loc_lst S he
      refine ⟨W.bt l, vs, loc_of_rl rx, rfl, hv, ?_⟩
      exact P W _ _ .refl (put_lst (v := .non) S he hv (fun h1 _ => rl_rev h1) .non) .non
    · exact P.elim
  · exact P.elim
where
  rl_rev : ∀ {W : Wd} {vs : List V} {ds : List D}, RlL X.K M W vs ds → RlL X.K M W vs.reverse ds.reverse
    | _, _, _, .nil => .nil
    | _, _, _, .cons a b => by
      rw [List.reverse_cons, List.reverse_cons]
      exact (rl_rev b).append (.cons a .nil)
theorem m_clear {m : Bool} : MtR X "list.clear" (rM X.K M g .clear m) := by
  refine mtImp mt_clear fun x xs H Q ⟨W, s, d, ds, E, S, rx, r, P⟩ => ?_
  simp only [bmeE] at P
  split at P
  · rename_i l
    cases r
    split at P
    · rename_i es he
      obtain ⟨vs, hv, rl⟩ := loc_lst S he
      refine ⟨W.bt l, vs, loc_of_rl rx, rfl, hv, ?_⟩
      exact P W _ _ .refl (put_lst (v := .non) S he hv (fun _ _ => .nil) .non) .non
    · exact P.elim
  · exact P.elim
theorem rl_dropLast {W : Wd} {vs : List V} {ds : List D} (r : RlL X.K M W vs ds) : RlL X.K M W vs.dropLast ds.dropLast := by
  rw [List.dropLast_eq_take, List.dropLast_eq_take, r.length]
  exact r.take _
theorem m_pop {m : Bool} : MtR X "list.pop" (rM X.K M g .pop m) := by
  refine mtImp mt_pop fun x xs H Q ⟨W, s, d, ds, E, S, rx, r, P⟩ => ?_
  simp only [bmeE] at P
  split at P
  · rename_i l
    cases r
    split at P
    · rename_i es he
      split at P
      · rename_i y hy
        obtain ⟨vs, hv, rl⟩ := loc_lst S he
        rw [List.getLast?_eq_getElem?] at hy
        obtain ⟨v, h1, h2⟩ := rl.get hy
        refine ⟨W.bt l, vs, v, loc_of_rl rx, rfl, hv, by rw [rl.length]; exact h1, ?_⟩
        exact P W _ _ .refl (put_lst (v := .non) S he hv (fun h1 _ => rl_dropLast h1) .non) h2
      · exact P.elim
    · exact P.elim
  · exact P.elim
theorem m_index {m : Bool} (hu : X.A.units + 65 < cLine) : MtR X "list.index" (rM X.K M g .index m) := by
  refine mtImp (mt_indexD hu) fun x xs H Q ⟨W, s, d, ds, E, S, rx, r, P⟩ => ?_
  simp only [bmeE] at P
  split at P
  · rename_i es y hl
    obtain ⟨v, rfl, rv⟩ := one_rl r
    obtain ⟨a, vs, rfl, hq, rl⟩ := lst_ok rx S hl
    split at P
    · rename_i n hn
      unfold idxOf at hn
      split at hn
      · rename_i hd
        have da := dat_dpL S rl hd.2
        have sh : SeqAt.shaped (.list (toPyL es)) = true := by
          have q := datL_lay 60 es hd.2
          unfold SeqAt.shaped
          simp only [PyData.canLay0, PyData.depth, q.1, Bool.true_and]
          exact decide_eq_true (by omega)
        have mp : toPyL es = es.map toPy := toPyL_map es
        have ddat : ∀ {i : Nat} {e : D}, es[i]? = some e → dat 60 e = true := fun {i e} h => datL_at hd.2 h
        obtain ⟨hlt, h1, h2⟩ := List.findIdx?_eq_some_iff_getElem.mp hn
        refine ⟨a, v, toPy y, toPyL es, n, toPy es[n], rfl, rfl, .lst hq da, dat_dp S rv hd.1, sh, dat_shaped hd.1, by rw [mp]; simp [hlt], ?_, fun k z' hk hz => ?_, P.ok S .int⟩
        · rw [peq_eqv _ _ 60 60 (ddat (List.getElem?_eq_getElem hlt)) hd.1]
          exact h1
        · rw [mp, List.getElem?_map] at hz
          obtain ⟨e, q1, rfl⟩ := Option.map_eq_some_iff.mp hz
          rw [peq_eqv _ _ 60 60 (ddat q1) hd.1]
          have := h2 k hk
          have he : es[k] = e := by
            have := List.getElem?_eq_getElem (l := es) (i := k) (by omega)
            rw [this] at q1
            exact Option.some.inj q1
          rw [he] at this
          simpa using this
      · cases hn
    · exact P.elim
  · exact P.elim
where
  toPyL_map : ∀ es : List D, toPyL es = es.map toPy
    | [] => rfl
    | e :: r => by rw [toPyL, toPyL_map r]; rfl
  datL_at : ∀ {es : List D} {i : Nat} {e : D}, datL 60 es = true → es[i]? = some e → dat 60 e = true
    | [], _, _, _, h => by simp at h
    | d :: r, 0, e, h, q => by
      simp only [datL, Bool.and_eq_true] at h
      simp at q
      rw [← q]; exact h.1
    | d :: r, i + 1, e, h, q => by
      simp only [datL, Bool.and_eq_true] at h
      exact datL_at (i := i) h.2 (by simpa using q)
/-- methods by their names -/
def bmeNm : Bme → Option (String × String)
  | .append => some ("list", "append")
  | .insert => some ("list", "insert")
  | .reverse => some ("list", "reverse")
  | .clear => some ("list", "clear")
  | .pop => some ("list", "pop")
  | .index => some ("list", "index")
  | _ => none
theorem recv_ty {W : Wd} {H : Hp} {s : Sto} {x : V} {d : D} {b : Bme} {n : String} (S : StR X.K M W H g s) (rx : Rl X.K M W x d) (hb : bmeNm b = some ("list", n)) (h : recv b d s = true) : tyV X.K "list" x H := by
  have h1 : ∃ ds, lstOf d s = some ds := by
    have key : (match view d s with | some (.lst _) => true | _ => false) = true → ∃ ds, lstOf d s = some ds := fun h => by
      split at h
      · rename_i ds hv
        cases d with
        | klst es => exact ⟨_, rfl⟩
        | frz o =>
          refine ⟨ds, ?_⟩
          unfold lstOf
          dsimp only
          rw [hv]
        | loc l =>
          refine ⟨ds, ?_⟩
          unfold lstOf
          dsimp only
          rw [hv]
        | _ => cases hv
      · cases h
    cases b with
    | append => exact key h
    | insert => exact key h
    | reverse => exact key h
    | clear => exact key h
    | pop => exact key h
    | index => exact Option.isSome_iff_exists.mp h
    | _ => cases hb
  obtain ⟨ds, hd⟩ := h1
  obtain ⟨a, vs, rfl, hq, _⟩ := lst_ok rx S hd
  exact .inl ⟨rfl, vs, hq⟩
theorem mets (hu : X.A.units + 65 < cLine) {b : Bme} {m : Bool} {n : String} (h : bmeNm b = some ("list", n)) : ∃ id, Slot "list" (sOf n) id ∧ typeOf (.builtin id) = pure (.type "method_descriptor") ∧ MtR X id (rM X.K M g b m) := by
  cases b with
  | append => cases h; exact ⟨_, PySem.F.slot_list_append, PySem.F.type_list_append, m_append⟩
  | insert => cases h; exact ⟨_, PySem.F.slot_list_insert, PySem.F.type_list_insert, m_insert⟩
  | reverse => cases h; exact ⟨_, PySem.F.slot_list_reverse, PySem.F.type_list_reverse, m_reverse⟩
  | clear => cases h; exact ⟨_, PySem.F.slot_list_clear, PySem.F.type_list_clear, m_clear⟩
  | pop => cases h; exact ⟨_, PySem.F.slot_list_pop, PySem.F.type_list_pop, m_pop⟩
  | index => cases h; exact ⟨_, PySem.F.slot_list_index, PySem.F.type_list_index, m_index hu⟩
  | _ => cases h
/-- xs.m(..) -/
theorem s_bme {b : Bme} {m : Bool} {n : String} {o : Expr} {mo : ME} {es : List Expr} {ms : List ME} {apos pos : Pos} (hu : X.A.units + 65 < cLine) (hb : bmeNm b = some ("list", n)) (hrv : recvOk o = true) (ho : PE X o (TF X.K M g (evE C mo) E))
    (hst : (es.all fun e => !isStar e) = true) (ha : PA X es (TA' X.K M g (evEs C ms) E)) (hl : es.length = ms.length) (hfew : es.length < 29) (hline : (apos.endLine == pos.line) = true) :
    PE X (.Call (.Attribute o (sOf n) apos) es [] pos) (TF X.K M g (evE C (.bme b m mo ms)) E) := by
  obtain ⟨id, sl, ty, mt⟩ := mets (X := X) (M := M) (g := g) (m := m) hu hb
  have rd : ∀ {σ : L2.St} {H : Hp} {Q : VK}, TF X.K M g (evE C (.bme b m mo ms)) E σ H Q → TF X.K M g (evE C mo) E σ H (fun x H1 => tyV X.K "list" x H1 ∧ TA' X.K M g (evEs C ms) E σ H1 (fun xs H2 => rM X.K M g b m x xs H2 Q)) := fun {σ H Q} ⟨W, env, s, en, S, P⟩ => ⟨W, env, s, en, S, by
    have P : Post X.K M g (Rl X.K M) (wE E σ) W Q ((evE C mo env s).bind fun x s => if recv b x s = true then (evEs C ms env s).bind fun xs s => bmeE b m x xs s else .no) := P
    refine P.bind.imp fun x H1 ⟨d, s1, W1, L, S1, r, P1⟩ => ?_
    split at P1
    · rename_i hr
      refine ⟨recv_ty S1 r hb hr, W1, env, s1, en.mono L, S1, P1.bind.imp fun xs H2 ⟨ds, s2, W2, L2, S2, r2, P2⟩ => ⟨W2, s2, d, ds, _, S2, r.mono L2, r2, P2⟩⟩
    · exact P1.elim⟩
  cases es with
  | nil =>
    have hms : ms = [] := by
      cases ms with
      | nil => rfl
      | cons _ _ => cases hl
    subst hms
    refine PE.imp (pe_bm0 PySem.F.plainAttrs_list sl ty mt ho (recv_base hrv _ _) hline) fun σ H Q q => ?_
    obtain ⟨W, env, s, en, S, P⟩ := rd q
    exact ⟨W, env, s, en, S, P.imp fun x H1 ⟨h1, W1, env1, s1, en1, S1, P1⟩ => ⟨h1, P1 W1 H1 [] .refl S1 .nil⟩⟩
  | cons e es =>
    have hst' := hst
    simp only [List.all_cons, Bool.and_eq_true, Bool.not_eq_true'] at hst'
    refine PE.imp (pe_bm PySem.F.plainAttrs_list sl ty mt ho ha (recv_base hrv _ _) ?_ hline (star_cons hst'.1) (star_back hst'.2)) fun σ H Q q => rd q
    rw [star_all hst]
    simp only [Bool.true_and]
    show (true && decide ((e :: es).length + 0 + 0 < 30)) = true
    simpa using by simp at hfew; omega
end
end Fn

set_option Elab.async false
set_option linter.all false
set_option maxRecDepth 100000
set_option maxHeartbeats 4000000
namespace Fn
open PySem L2 PySem.Spec PyProof.Rows
/-! Fn14h: try with clauses of both kinds; a law's teller of refusals. -/
/-- a clause: its class, the slot of its name, its suite's reading -/
structure Cl where
  c : Value
  nm : Option Nat
  ts : Addr → Value → Option Addr → TS
def Cl.run (z : Cl) (a : Addr) (cls : Value) (d : Option Addr) (D : Ends) (σ : L2.St) (H : Hp) : Prop := match z.nm with
  | none => z.ts a cls d D σ H
  | some i => i < σ.length → z.ts a cls d ⟨fun σ1 H1 => D.nx (σ1.set i none) H1, D.rt, fun σ1 H1 => D.bk (σ1.set i none) H1, fun σ1 H1 => D.ct (σ1.set i none) H1⟩ (σ.set i (some (.ref a))) H
def wMix (K : PySem.W.Frag) (Wo : L2.WX) (D : Ends) : List Cl → L2.WX
  | [] => Wo
  | z :: r => fun cls d σ H => ∃ b, PySem.W.exmOne K cls z.c = some b ∧ (b = true → ∀ a, H a = none → z.run a cls d D σ H) ∧ (b = false → wMix K Wo D r cls d σ H)
/-- the clauses' suites are as they are read -/
inductive HdsM (X : Cx) : List ExceptHandler → List Cl → Prop
  | nil : HdsM X [] []
  | bare {x : Str} {v : Value} {ts : Addr → Value → Option Addr → TS} {b₀ : Stmt} {ss : List Stmt} {np hp : Pos} {hds : List ExceptHandler} {l : List Cl} (hc : Names X x v)
      (hs : ∀ (a : Addr) (oe : Obj) (cls : Value) (d : Option Addr) (pn : List (Addr × Obj)), Zc cls d oe → (∃ vs, oe.data = .fields vs) → PSs (X.suite a ((a, oe) :: pn)) (b₀ :: ss) (ts a cls d)) (r : HdsM X hds l) :
      HdsM X (.ExceptHandler (some (.Name x np)) none (b₀ :: ss) hp :: hds) (⟨v, none, ts⟩ :: l)
  | as_ {x n : Str} {i : Nat} {v : Value} {ts : Addr → Value → Option Addr → TS} {b₀ : Stmt} {ss : List Stmt} {np hp : Pos} {hds : List ExceptHandler} {l : List Cl} (hc : Names X x v) (hN : X.N.Nodup) (hi : X.N[i]? = some n) (hl : X.env.kindOf n = some .local)
      (hs : ∀ (a : Addr) (oe : Obj) (cls : Value) (d : Option Addr) (pn : List (Addr × Obj)), Zc cls d oe → (∃ vs, oe.data = .fields vs) → PSs (X.suite a ((a, oe) :: pn)) (b₀ :: ss) (ts a cls d)) (r : HdsM X hds l) :
      HdsM X (.ExceptHandler (some (.Name x np)) (some n) (b₀ :: ss) hp :: hds) (⟨v, some i, ts⟩ :: l)
section
variable {X : Cx} {body : List Stmt} {h0 : ExceptHandler} {hds : List ExceptHandler} {l : List Cl} {pos : Pos} {tb : L2.WX → TS} {Wo : L2.WX}
theorem ps_try_mix (es : X.stack = X.env :: X.outer) (ef : X.env.frame = some X.env.locals) (tk : Takes X Wo)
    (hb : ∀ (W : L2.WX) (pn : List (Addr × Obj)) (xe : Value → Shared → Prop), Takes (X.tr pn xe) W → PassesOwn (model X.prog X.w) X.A X.env xe → PSs (X.tr pn xe) body (tb W)) (hh : HdsM X (h0 :: hds) l) :
    PS X (.Try body (h0 :: hds) [] [] pos) (fun D σ H => tb (wMix X.K Wo D l) D σ H) := by
  refine ⟨fun pins s σ H D J0 hyp => ?_⟩
  have okX := J0.ok
  have fr0 : X.A.frames = some (X.env :: X.outer) := okX.frames.trans (congrArg some es)
  refine wpAny_Try_except ?_
  refine wpAny_mono ((hb (wMix X.K Wo D l) (X.pn ++ pins) (fun u s₁ => wpAny (model X.prog X.w) X.A (noteFrame u X.env) (fun _ s₂ => wpAny (model X.prog X.w) X.A (setFlight u none) (fun _ s₃ =>
    wpAny (model X.prog X.w) X.A (handleBy u X.env (h0 :: hds)) (SP X pins D) X.xe s₃) X.xe s₂) X.xe s₁) (fun u sx xx => ?_) PassesOwn.looking).run [] s σ H D (J0.toTry _) hyp) (fun fl sy hsp => ?_) (fun _ _ z => z)
  · obtain ⟨ea, Bh, sI, pin2, σx, Hx, cls, dd, rfl, Jt, nb, up, sky, nea, eos, ag, ww⟩ := xx
    have Jx : L2.Inv X pins σx Hx sI := Jt.ofTry okX
    have skyx : Sky Bh (X.env :: X.outer) ea (Zc cls dd) X.env.locals sx.heap := es ▸ sky
    refine Sky.land Zc.steady fr0 ef skyx fun h3 fl3 up3 => ?_
    have J3 : L2.Inv X pins σx Hx { sx with heap := h3 } := Jx.landed nb fl3.1 (up.trans up3) eos ag
    obtain ⟨o3, vs3, he3, hz3, hd3⟩ := fl3.there
    have nfr : ea ∉ frs (X.env :: X.outer) := fun hm => by
      obtain ⟨_, o', e', hnf⟩ := fl3.2.2.1.mem hm
      cases he3.symm.trans e'
      exact hnf _ hd3
    have nL : ea ≠ X.env.locals := fun z => nfr (List.mem_filterMap.mpr ⟨X.env, List.mem_cons_self, z ▸ ef⟩)
    have nF : ea ∉ X.fs := fun hm => by
      obtain ⟨en, hen, q⟩ := List.mem_filterMap.mp hm
      exact nfr (List.mem_filterMap.mpr ⟨en, List.mem_cons_of_mem _ hen, q⟩)
    have S3 := J3.suite he3 hd3 nea nL nF
    have LT : PySem.W.Looks (model X.prog X.w) h3 (typeOf (.ref ea)) cls := fun A Q E s k q => wpAny_typeOf_ref (k _ _ he3) (hz3.1.symm ▸ q)
    have test : ∀ {x : Str} {v : Value} {np : Pos} {Q E : Value → Shared → Prop}, Names X x v → Q v { sx with heap := h3 } → wpAny (model X.prog X.w) (X.A.mark (some (.ref ea))) (eval (.Name x np) X.env) Q E { sx with heap := h3 } := fun hc q => by
      obtain ⟨hg, hdbg, hm | ⟨hm, hv, hnn⟩⟩ := hc
      · exact ld_glob (X := X.suite ea ((ea, o3) :: (X.pn ++ pins))) S3 hg hm q hdbg
      · exact ld_blt (X := X.suite ea ((ea, o3) :: (X.pn ++ pins))) S3 hg hm hv q hnn hdbg
    have go : ∀ {hds2 : List ExceptHandler} {l2 : List Cl}, HdsM X hds2 l2 → wMix X.K Wo D l2 cls dd σx Hx → wpAny (model X.prog X.w) X.A (handleBy (.ref ea) X.env hds2) (SP X pins D) X.xe { sx with heap := h3 } := by
      intro hds2 l2 hk
      induction hk with
      | nil =>
        intro w1
        refine wpAny_handleBy_nil ?_
        obtain ⟨k1, k2, k3, oe, vs, T, oT, ts', he, hz, hd, h1, hr⟩ := id fl3
        unfold PySem.passOn
        refine wpAny_bind (wpAny_field he hd h1 ?_)
        rw [if_neg (by simp : ¬ ((Value.ref T == Value.none) = true))]
        have fin : wpAny (model X.prog X.w) X.A (setFlight (.ref ea) X.env.frame) (fun _ s4 => wpAny (model X.prog X.w) X.A (throw (.ref ea) : Sem PySem.Flow) (SP X pins D) X.xe s4) X.xe { sx with heap := h3 } := by
          rw [ef]
          exact HandSPX.setFlight_upZ fl3 fun h4 hh4 up4 => wpAny_throw (tk _ _ ⟨ea, Bh, sI, pins, σx, Hx, cls, dd, rfl, Jx, nb, (up.trans up3).trans up4, .inr (.inr (es.symm ▸ hh4)), nea, eos, ag, w1⟩)
        first
          | exact wpAny_bind (wpAny_pure (wpAny_bind fin))
          | exact wpAny_bind fin
      | @bare x v ts b₀ ss np hp hds3 l3 hc hs r ih =>
        rintro ⟨b, hb1, hyes, hno⟩
        refine wpAny_handleBy_cons (codeAny_handlers_test ?_) (by rintro ⟨⟩)
        refine test hc ((PySem.W.exm_one (M := model X.prog X.w) J3.kIn LT hb1).here ?_)
        cases b with
        | false => exact ih (hno rfl)
        | true =>
          refine codeAny_handlers_suite (HandSPX.lands_againZ fl3 fun h4 fl4 up4 => ?_)
          have J4 : L2.Inv X pins σx Hx { sx with heap := h4 } := Jx.landed nb fl4.1 ((up.trans up3).trans up4) eos ag
          obtain ⟨o4, vs4, he4, hz4, hd4⟩ := fl4.there
          refine wpAny_mono ((hs ea o4 cls dd (X.pn ++ pins) hz4 ⟨_, hd4⟩).run [] _ _ Hx _ (J4.suite he4 hd4 nea nL nF) (hyes rfl ea nea)) (fun fl s6 hsp => ?_) (fun _ _ z => z.elim)
          cases fl with
          | ret u => obtain ⟨v6, σ6, H6, S6, r6, q6⟩ := hsp; exact ⟨v6, σ6, H6, S6.unsuite okX, r6, q6⟩
          | next => obtain ⟨σ6, H6, S6, q6⟩ := hsp; exact ⟨σ6, H6, S6.unsuite okX, q6⟩
          | brk => obtain ⟨σ6, H6, S6, q6⟩ := hsp; exact ⟨σ6, H6, S6.unsuite okX, q6⟩
          | cont => obtain ⟨σ6, H6, S6, q6⟩ := hsp; exact ⟨σ6, H6, S6.unsuite okX, q6⟩
      | @as_ x n i v ts b₀ ss np hp hds3 l3 hc hN hi hl hs r ih =>
        rintro ⟨b, hb1, hyes, hno⟩
        refine wpAny_handleBy_cons (codeAny_handlers_test ?_) (by rintro ⟨⟩)
        refine test hc ((PySem.W.exm_one (M := model X.prog X.w) J3.kIn LT hb1).here ?_)
        cases b with
        | false => exact ih (hno rfl)
        | true =>
          refine codeAny_handlers_suite_as (HandSPX.lands_againZ fl3 fun h4 fl4 up4 => ?_)
          have J4 : L2.Inv X pins σx Hx { sx with heap := h4 } := Jx.landed nb fl4.1 ((up.trans up3).trans up4) eos ag
          obtain ⟨o4, vs4, he4, hz4, hd4⟩ := fl4.there
          refine store_ok (X := X.suite ea ((ea, o4) :: (X.pn ++ pins))) (v := .ref ea) (J4.suite he4 hd4 nea nL nF) hN hi (.inl hl) rfl (fun s5 S5 => ?_) (.inr hl)
          refine wpAny_mono ((hs ea o4 cls dd (X.pn ++ pins) hz4 ⟨_, hd4⟩).run [] s5 _ Hx _ S5 (hyes rfl ea nea (by rw [Jx.len]; exact (List.getElem?_eq_some_iff.mp hi).1))) (fun fl s6 hsp => ?_) (fun _ _ z => z.elim)
          have bye : ∀ {σ6 : L2.St} {H6 : Hp} {Q : Shared → Prop}, L2.Inv (X.suite ea ((ea, o4) :: (X.pn ++ pins))) [] σ6 H6 s6 → (∀ s7, L2.Inv X pins (σ6.set i none) H6 s7 → Q s7) →
              wpAny (model X.prog X.w) X.A (do bindName X.env n .none; unbindBehindTheSuite X.env n hp) (fun _ s7 => Q s7) X.xe s6 := fun S6 hq => gone_ok (S6.unsuite okX) hN hi hl hq
          cases fl with
          | ret u => obtain ⟨v6, σ6, H6, S6, r6, q6⟩ := hsp; exact bye S6 fun s7 J7 => ⟨v6, _, H6, J7, r6, q6⟩
          | next => obtain ⟨σ6, H6, S6, q6⟩ := hsp; exact bye S6 fun s7 J7 => ⟨_, H6, J7, q6⟩
          | brk => obtain ⟨σ6, H6, S6, q6⟩ := hsp; exact bye S6 fun s7 J7 => ⟨_, H6, J7, q6⟩
          | cont => obtain ⟨σ6, H6, S6, q6⟩ := hsp; exact bye S6 fun s7 J7 => ⟨_, H6, J7, q6⟩
    exact go hh ww
  · cases fl with
    | next => obtain ⟨σ1, H1, J1, q⟩ := hsp; exact wpAny_execs_nil ⟨σ1, H1, J1.ofTry okX, q⟩
    | brk => obtain ⟨σ1, H1, J1, q⟩ := hsp; exact ⟨σ1, H1, J1.ofTry okX, q⟩
    | cont => obtain ⟨σ1, H1, J1, q⟩ := hsp; exact ⟨σ1, H1, J1.ofTry okX, q⟩
    | ret u => obtain ⟨v1, σ1, H1, J1, r1, q⟩ := hsp; exact ⟨v1, σ1, H1, J1.ofTry okX, r1, q⟩
end
end Fn

set_option Elab.async false
set_option linter.all false
set_option maxRecDepth 100000
set_option maxHeartbeats 4000000
namespace Fn
open PySem L2 PySem.Spec PyProof.Rows
/-! Fn14i: g(lambda: e), g a teller of refusals. -/
def glB (sc : Scope) (x : Str) : Bool := (match sc.names.lookup x with | some .globalImplicit => true | _ => false) && !(x == ("__debug__" : Str))

abbrev Ws := List (String × List Nat × List String)
/-- n.f, n.g, .. -/
def attB (n : Str) : List String → List Expr → Bool
  | [], [] => true
  | f :: fs, .Attribute (.Name n' _) f' _ :: es => decide (n' = n) && decide (f' = sOf f) && attB n fs es
  | _, _ => false
def hdsB (Ng : List Str) (sg : Scope) : Ws → List ExceptHandler → Bool
  | [], [] => true
  | (c, tag, []) :: ws, .ExceptHandler (some (.Name x _)) none [.Return (some (.Tuple [.Constant (.str t) _ _] _ _)) _] _ :: hds => decide (x = sOf c) && decide (t.cps.toList = tag) && glB sg x && hdsB Ng sg ws hds
  | (c, tag, f :: fs) :: ws, .ExceptHandler (some (.Name x _)) (some n) [.Return (some (.Tuple (.Constant (.str t) _ _ :: es) _ _)) _] _ :: hds =>
    decide (x = sOf c) && decide (t.cps.toList = tag) && glB sg x && decide (Ng[1]? = some n) && (match sg.names.lookup n with | some .local => true | _ => false) && nmOk n && attB n (f :: fs) es && decide (fs.length < 900) && hdsB Ng sg ws hds
  | _, _ => false
def whyB (Ng : List Str) (sg : Scope) (a : Str) (ws : Ws) : List Stmt → Bool
  | [.Try [.Expr (.Call (.Name a' _) [] [] _) _] (h0 :: hds) [] [] _, .Return (some (.Tuple [.Constant (.str n) _ _] _ _)) _] => decide (a' = a) && decide (n.cps.toList = [110, 111, 110, 101]) && nmOk a && decide (Ng[0]? = some a) && visA sg a && hdsB Ng sg ws (h0 :: hds)
  | _ => false
where visA (sg : Scope) (a : Str) : Bool := match sg.names.lookup a with | some .local => true | some .cell => true | some .free => true | _ => false
/-- what a teller makes of an exception -/
def WW (K : PySem.W.Frag) (M : Nm) (Q : VK) (cls : Value) (d : Option Addr) (H : Hp) : Ws → Prop
  | [] => False
  | (c, tag, fs) :: r => ∃ b, PySem.W.exmOne K cls (.ref (M.cls c)) = some b ∧ (b = true → ∃ vs, (fs ≠ [] → cls = .ref (M.cls c) ∧ ∃ dd xs, d = some dd ∧ H dd = some (.xd xs) ∧ fs.map (fun f => xs.lookup (sOf f)) = vs.map some) ∧ (fs = [] → vs = []) ∧ ∀ p, H p = none → Q (.ref p) (upd H p (.tup (.str (cOf tag) :: vs)))) ∧ (b = false → WW K M Q cls d H r)
/-- what the lambda's reading becomes -/
def TTw (K : PySem.W.Frag) (M : Nm) (ws : Ws) : (XK → Hp → VK → Prop) → Hp → VK → Prop := fun tl H Q =>
  tl (fun cls d H' => WW K M Q cls d H' ws) H (fun _ H' => [V.str (cOf [110, 111, 110, 101])].length ≤ sizeLine ∧ ∀ p, H' p = none → Q (.ref p) (upd H' p (.tup [.str (cOf [110, 111, 110, 101])])))
/-- facts of the classes that the clauses name -/
structure WsOk (K : PySem.W.Frag) (mg : Str → Option Value) (M : Nm) (ws : Ws) : Prop where
  mg : ∀ z ∈ ws, mg (sOf z.1) = some (.ref (M.cls z.1))
  xf : ∀ z ∈ ws, z.2.2 ≠ [] → XfC K (M.cls z.1) ∧ ∀ f ∈ z.2.2, PySem.W.findIn K (.ref (M.cls z.1)) (sOf f) = some none
section
theorem str_of {t : Str} {cs : List Nat} (h : t.cps.toList = cs) : t = cOf cs := by
  cases t with
  | mk a =>
    subst h
    simp [cOf]
/-- the fields' values, one after the other -/
theorem pa_att {X : Cx} {a : Addr} {oe : Obj} {cls : Value} {d : Option Addr} {pn : List (Addr × Obj)} {C : Addr} {n : Str} {i : Nat} (T : XfC X.K C) (hz : Zc cls d oe) (hf : ∃ vs, oe.data = .fields vs) (hi : X.N[i]? = some n) (hv : Vis X.env.scope n) (hn : nmOk n = true) :
    ∀ (fs : List String) (es : List Expr), attB n fs es = true → (∀ f ∈ fs, PySem.W.findIn X.K (.ref C) (sOf f) = some none) → (es.all fun e => !isStar e) = true ∧
      PA (X.suite a ((a, oe) :: pn)) es (fun σ H Q => fs = [] ∧ Q [] H ∨ σ[i]? = some (some (.ref a)) ∧ cls = .ref C ∧ ∃ dd xs vs, d = some dd ∧ H dd = some (.xd xs) ∧ fs.map (fun f => xs.lookup (sOf f)) = vs.map some ∧ Q vs H)
  | [], [], _, _ => ⟨rfl, PA.imp pa_nil fun σ H Q q => by
      rcases q with ⟨_, q⟩ | ⟨_, _, dd, xs, vs, _, _, e, q⟩
      · exact q
      · cases vs with
        | nil => exact q
        | cons _ _ => cases e⟩
  | f :: fs, .Attribute (.Name n' p1) f' p2 :: es, h, hno => by
    simp only [attB, Bool.and_eq_true, decide_eq_true_eq] at h
    obtain ⟨⟨rfl, rfl⟩, h3⟩ := h
    simp only [nmOk, Bool.and_eq_true, Bool.not_eq_true'] at hn
    obtain ⟨i1, i2⟩ := pa_att (a := a) (pn := pn) T hz hf hi hv (by simp [nmOk, hn.1, hn.2]) fs es h3 fun f hf => hno f (List.mem_cons_of_mem _ hf)
    refine ⟨by rw [List.all_cons, i1]; rfl, PA.imp (pa_cons (pe_xf (pos := p2) T (hno f List.mem_cons_self) hz hf (pe_var (pos := p1) (i := i) hi hv hn.1 hn.2)) i2 rfl) fun σ H Q q => ?_⟩
    rcases q with ⟨z, _⟩ | ⟨h1, h2, dd, xs, vs, h4, h5, h6, q⟩
    · cases z
    · cases vs with
      | nil => cases h6
      | cons v vs =>
        simp only [List.map_cons, List.cons.injEq] at h6
        exact ⟨.ref a, h1, rfl, h2, dd, xs, v, h4, h5, h6.1, .inr ⟨h1, h2, dd, xs, vs, h4, h5, h6.2, q⟩⟩
  | [], _ :: _, h, _ => by cases h
  | _ :: _, [], h, _ => by cases h
theorem gl_of {X : Cx} {sg : Scope} {x : Str} (hsc : X.env.scope = sg) (q : glB sg x = true) : Gl X x ∧ (x == ("__debug__" : Str)) = false := by
  unfold glB at q
  simp only [Bool.and_eq_true, Bool.not_eq_true'] at q
  refine ⟨?_, q.2⟩
  have q1 := q.1
  split at q1
  · rename_i e
    show X.env.scope.names.lookup x = _
    rw [hsc]
    exact e
  · cases q1
/-- the clauses, as they are read -/
theorem hds_ok {X : Cx} {M : Nm} {sg : Scope} (hN : X.N.Nodup) (hsc : X.env.scope = sg) (ws : Ws) : ∀ (hds : List ExceptHandler), hdsB X.N sg ws hds = true → WsOk X.K X.mg M ws → ∃ l, HdsM X hds l ∧ ∀ (D : Ends) (cls : Value) (d : Option Addr) (σ : L2.St) (H : Hp), WW X.K M D.rt cls d H ws → wMix X.K (fun _ _ _ _ => False) D l cls d σ H := by
  induction ws with
  | nil =>
    intro hds h W
    unfold hdsB at h
    split at h
    · exact ⟨[], .nil, fun D cls d σ H h => h⟩
    · rename_i q; cases q
    · rename_i q; cases q
    · cases h
  | cons z ws ih =>
    intro hds h W
    have W' : WsOk X.K X.mg M ws := ⟨fun z hz => W.mg z (List.mem_cons_of_mem _ hz), fun z hz => W.xf z (List.mem_cons_of_mem _ hz)⟩
    unfold hdsB at h
    split at h
    · rename_i q; cases q
    · rename_i c tag ws2 x np t j p1 k p2 p3 hp hds2 q
      obtain ⟨rfl, rfl⟩ := List.cons.inj q
      simp only [Bool.and_eq_true, decide_eq_true_eq] at h
      obtain ⟨⟨⟨rfl, h2⟩, h3⟩, h4⟩ := h
      have et := str_of h2
      subst et
      obtain ⟨l, q1, q2⟩ := ih hds2 h4 W'
      obtain ⟨g1, g2⟩ := gl_of hsc h3
      refine ⟨_, .bare (v := .ref (M.cls c)) ⟨g1, g2, .inl (W.mg _ List.mem_cons_self)⟩ (fun a oe cls d pn _ _ => pss_one (ps_ret (pe_tup (pa_cons pe_str pa_nil)))) q1, fun D cls d σ H hw => ?_⟩
      obtain ⟨b, e1, e2, e3⟩ := hw
      refine ⟨b, e1, fun hb a ha => ?_, fun hb => q2 D cls d σ H (e3 hb)⟩
      obtain ⟨vs, w1, w2, w3⟩ := e2 hb
      have := w2 rfl
      subst this
      exact ⟨by show 1 ≤ sizeLine; decide, w3⟩
    · rename_i c tag f fs ws2 x np n t j p1 es k p2 p3 hp hds2 q
      obtain ⟨rfl, rfl⟩ := List.cons.inj q
      simp only [Bool.and_eq_true, decide_eq_true_eq] at h
      obtain ⟨⟨⟨⟨⟨⟨⟨⟨rfl, h2⟩, h3⟩, h5⟩, h6⟩, h7⟩, h8⟩, h9⟩, h4⟩ := h
      have et := str_of h2
      subst et
      obtain ⟨l, q1, q2⟩ := ih hds2 h4 W'
      obtain ⟨g1, g2⟩ := gl_of hsc h3
      have hl : X.env.kindOf n = some .local := by
        show X.env.scope.names.lookup n = _
        rw [hsc]
        split at h6
        · assumption
        · cases h6
      obtain ⟨xf, hno⟩ := W.xf _ List.mem_cons_self (by simp)
      refine ⟨_, .as_ (v := .ref (M.cls c)) ⟨g1, g2, .inl (W.mg _ List.mem_cons_self)⟩ hN h5 hl (fun a oe cls d pn hz hf => pss_one (ps_ret (pe_tup (pa_cons pe_str (pa_att (a := a) (pn := pn) xf hz hf h5 (.inl hl) h7 (f :: fs) es h8 hno).2)))) q1, fun D cls d σ H hw => ?_⟩
      obtain ⟨b, e1, e2, e3⟩ := hw
      refine ⟨b, e1, fun hb a ha hlt => ?_, fun hb => q2 D cls d σ H (e3 hb)⟩
      obtain ⟨vs, w1, w2, w3⟩ := e2 hb
      obtain ⟨z1, dd, xs, z2, z3, z4⟩ := w1 (by simp)
      refine .inr ⟨List.getElem?_set_self hlt, z1, dd, xs, vs, z2, z3, z4, ?_, w3⟩
      have hlen := congrArg List.length z4
      simp only [List.length_map, List.length_cons] at hlen
      show vs.length + 1 ≤ sizeLine
      rw [sizeLine_eq]
      omega
    · cases h
/-- what a teller makes of what it is given -/
theorem why_gives {X : Cx} {M : Nm} {Ng : List Str} {x a q : Str} {sg : Scope} {g : Addr} {cdg : Value} {ws : Ws} {bg : List Stmt} (hw : whyB Ng sg a ws bg = true) (W : WsOk X.K X.mg M ws) (hN : Ng.Nodup) : LamX.GivesTo X Ng x sg g cdg bg a q (TTw X.K M ws) := by
  intro f c' s H Q tl act hc ht
  unfold whyB at hw
  split at hw
  · rename_i a' p1 p2 p3 h0 hds p4 n j p5 k p6 p7
    simp only [Bool.and_eq_true, decide_eq_true_eq] at hw
    obtain ⟨⟨⟨⟨⟨rfl, h2⟩, h3⟩, h4⟩, h5⟩, h6⟩ := hw
    have et := str_of h2
    subst et
    obtain ⟨l, q1, q2⟩ := hds_ok (X := (cxOf C8.CX0 X.prog X.w X.K X.mg X.base Ng x sg g cdg X.A X.stack s H C8.E0).nox) hN rfl ws _ h6 W
    refine ⟨_, pss_cons (ps_try_mix (X := (cxOf C8.CX0 X.prog X.w X.K X.mg X.base Ng x sg g cdg X.A X.stack s H C8.E0).nox) (tb := fun Wx D σ H => ∃ Ech : XK, (∀ cls d σ' H', Ech cls d H' → Wx cls d σ' H') ∧ σ[0]? = some (some (.ref f)) ∧ H c' = some (LamX.CodeO c' q) ∧ tl Ech H (fun _ H' => D.nx σ H'))
      rfl rfl LamX.takes0 (fun Wx pn xe tk _ => ⟨fun pins s' σ H' D I h' => ?_⟩) q1) (pss_one (ps_ret (pe_tup (pa_cons pe_str pa_nil)))), ?_⟩
    · obtain ⟨Ech, hW, z1, z2, z3⟩ := h'
      have hp := act Wx pn xe Ech p1 p2 tk hW
      exact (pss_one (ps_expr (pos := p3) hp (by rfl))).run pins s' σ H' D I ⟨z1, z2, z3⟩
    · refine ⟨fun cls d H' => WW X.K M Q cls d H' ws, fun cls d σ' H' hh => q2 _ cls d σ' H' hh, ?_, hc, ?_⟩
      · have : 0 < Ng.length := (List.getElem?_eq_some_iff.mp h4).1
        unfold L2.start
        rfl
      · exact ht
  · cases hw
/-- what stands of a law's teller g, of the maker's code object -/
def WhyOk (P : Program) (K : PySem.W.Frag) (mg : Str → Option Value) (base : Heap) (M : Nm) (sub : String → String → Bool) (code : Value) (qual : Str) (g : String) (ws : Ws) : Prop :=
  ∃ (gA c T : Addr) (a : Str) (pg : Arguments) (bg : List Stmt) (sg : Scope) (fd : FuncData) (Ng : List Str), mg (sOf g) = some (.ref gA) ∧ FunD K (sOf g) (sOf g) pg bg sg [] [] gA fd ∧ Binds K fd [a] [] ∧ FnScope Ng [a] sg ∧ whyB Ng sg a ws bg = true ∧ WsOk K mg M ws ∧
    (∀ x ∈ M.ex, ∀ z ∈ ws, PySem.W.exmOne K (.ref (M.cls x)) (.ref (M.cls z.1)) = some (sub x z.1)) ∧ LamX.TabB base mg c T ∧ code = .ref c ∧ (T, qual ++ "<lambda>") ∈ M.tb ∧ (∀ p ∈ M.tb, p.1 = T → p.2 = qual ++ "<lambda>")
/-- all but the tables stay -/
theorem StR.extN {K : PySem.W.Frag} {M : Nm} {W : Wd} {H H' : Hp} {g : Nat → Prop} {s : Sto} (S : StR K M W H g s) (e : LamX.ExtN H H') (t : LamX.Tabs M.tb H') : StR K M W H' g s := by
  have nt : ∀ {a : Addr} {u : HO}, NT u → H a = some u → H' a = some u := fun n h => e _ _ h n.t
  have ob : ∀ {W1 : Wd} {a : Addr} {o : Ob}, ObR K M W1 H a o → ObR K M W1 H' a o := fun {W1 a o} h => by
    cases h with
    | live e1 r z => exact .live (nt r.nt e1) r z
    | lkL e1 r z => exact .lkL (nt ⟨fun _ z => (nomatch z), fun _ z => (nomatch z)⟩ e1) r z
    | lkD e1 i r z => exact .lkD (nt .frz e1) i r z
    | dead e1 n1 => exact .dead (nt n1 e1) n1
  refine ⟨fun a ho h => ?_, S.len, fun l o h => ob (S.ob l o h), S.inj, S.base, fun a ho h => ?_, fun a ho h => ?_, S.lk, fun he m hg hm l o hl h => ob (S.old he m hg hm l o hl h), ⟨t, S.tb.fz, S.tb.fr, S.tb.lc⟩⟩
  · rcases S.fz a ho h with z | ⟨i, od, z⟩
    · exact .inl (nt (S.tb.fz _ _ h) z)
    · exact .inr ⟨i, od, nt .frz z⟩
  · obtain ⟨q1, q2, q3⟩ := S.fr a ho h
    exact ⟨nt (S.tb.fr _ _ h).1 q1, q2, q3⟩
  · obtain ⟨q1, q2, q3, q4⟩ := S.lc a ho h
    exact ⟨nt (S.tb.lc _ _ h) q1, q2, q3, q4⟩
theorem gets_rl {K : PySem.W.Frag} {M : Nm} {W : Wd} {H : Hp} {x : Xn} {cls : Value} {dd : Option Addr} (xr : XR K M W H x cls dd) : ∀ (fs : List String) (ds : List D), getsF x.fs fs = some ds → fs ≠ [] → ∃ dx xs vs, dd = some dx ∧ H dx = some (.xd xs) ∧ fs.map (fun f => xs.lookup (sOf f)) = vs.map some ∧ RlL K M W vs ds
  | [], _, _, h => absurd rfl h
  | f :: fs, ds, h, _ => by
    unfold getsF at h
    cases h1 : fget x.fs f with
    | none => rw [h1] at h; cases h
    | some d =>
      cases h2 : getsF x.fs fs with
      | none => rw [h1, h2] at h; cases h
      | some es =>
        rw [h1, h2] at h
        cases h
        obtain ⟨dx, xs, v, q1, q2, q3, q4⟩ := xr.fs f d h1
        by_cases hf : fs = []
        · subst hf
          cases h2
          exact ⟨dx, xs, [v], q1, q2, by simp [q3], .cons q4 .nil⟩
        · obtain ⟨dx2, xs2, vs, z1, z2, z3, z4⟩ := gets_rl xr fs es h2 hf
          rw [q1] at z1
          cases z1
          rw [q2] at z2
          cases z2
          exact ⟨dx, xs, v :: vs, q1, q2, by rw [List.map_cons, List.map_cons, q3, z3], .cons q4 z4⟩
theorem why_rl {K : PySem.W.Frag} {M : Nm} {W : Wd} {H : Hp} {s : Sto} {g : Nat → Prop} {x : Xn} {cls : Value} {dd : Option Addr} {E : WS} {Q : VK} {d : D} {sub : String → String → Bool} (S : StR K M W H g s) (xr : XR K M W H x cls dd) (P : Post K M g (Rl K M) E W Q (.ok d s)) :
    ∀ ws : Ws, (∀ z ∈ ws, PySem.W.exmOne K (.ref (M.cls x.cls)) (.ref (M.cls z.1)) = some (sub x.cls z.1)) → whyH sub ws x = some d → WW K M Q cls dd H ws
  | [], _, h => by cases h
  | (c, tag, fs) :: ws, hx, h => by
    unfold whyH at h
    refine ⟨sub x.cls c, by rw [xr.cls]; exact hx _ List.mem_cons_self, fun hb => ?_, fun hb => ?_⟩
    · rw [if_pos hb] at h
      split at h
      · rename_i hc
        cases h1 : getsF x.fs fs with
        | none => rw [h1] at h; cases h
        | some ds =>
          rw [h1] at h
          cases h
          by_cases hf : fs = []
          · subst hf
            cases h1
            exact ⟨[], fun z => absurd rfl z, fun _ => rfl, fun p hp => P.tup S (.cons .str .nil) hp⟩
          · obtain ⟨dx, xs, vs, z1, z2, z3, z4⟩ := gets_rl xr fs ds h1 hf
            exact ⟨vs, fun _ => ⟨by rw [xr.cls, hc.resolve_left hf], dx, xs, z1, z2, z3⟩, fun z => absurd z hf, fun p hp => P.tup S (.cons .str z4) hp⟩
      · cases h
    · rw [if_neg (by rw [hb]; decide)] at h
      exact why_rl S xr P ws (fun z hz => hx z (List.mem_cons_of_mem _ hz)) h
/-- g(lambda: e) -/
theorem s_why {X : Cx} {M : Nm} {g0 : Nat → Prop} {E : L2.WX} {C : Ctx} {m : ME} {g : String} {ws : Ws} {k : Nat} {body : Expr} {scope : Scope} {p lp pos : Pos} (hw : WhyOk X.prog X.K X.mg X.base M C.sub X.env.code X.env.qual g ws) (hg : Gl X (sOf g)) (hdb : (sOf g == ("__debug__" : Str)) = false) (hr : Room (k + 3) X.A) (L : LamX.LamS X.env.scope scope)
    (hbody : ∀ (A : Around) (outer : List PySem.Env) (s : Shared) (H : Hp) (E : XK) (f c' : Addr), Room (k + 1) (A.deeper (LamX.lamEnv X scope s.heap.objs.size f c')) → PE (LamX.lamCx X A outer s H E scope f c') body (TF X.K M g0 (evE C m) (fun cls d _ H => E cls d H))) :
    PE X (.Call (.Name (sOf g) p) [.Lambda ⟨[], [], none, [], [], none, []⟩ body scope lp] [] pos) (TF X.K M g0 (evE C (.why g ws m)) E) := by
  obtain ⟨gA, c, T, a, pg, bg, sg, fd, Ng, hm, F, hb, Sg, hB, W, hx, TB, hcode, hmT, hu⟩ := hw
  obtain ⟨oc, od, dV, kV, doc, pm, an, cdv, ct, osl, rfl, lk, hcd, hD, hK⟩ := F.ex
  have hB2 := hB
  unfold whyB at hB2
  split at hB2
  · rename_i a' q1 q2 q3 h0 hds q4 n j q5 kk q6 q7
    simp only [Bool.and_eq_true, decide_eq_true_eq] at hB2
    obtain ⟨⟨⟨⟨⟨e1, e2⟩, e3⟩, e4⟩, e5⟩, e6⟩ := hB2
    simp only [nmOk, Bool.and_eq_true, Bool.not_eq_true'] at e3
    have hva : Vis sg a := by
      unfold whyB.visA at e5
      unfold Vis
      split at e5
      · rename_i z; exact .inl z
      · rename_i z; exact .inr (.inl z)
      · rename_i z; exact .inr (.inr z)
      · cases e5
    refine PE.imp (LamX.pe_lamcall (T := M.tb) (TT := TTw X.K M ws) (t := fun E' => TF X.K M g0 (evE C m) (fun cls d _ H => E' cls d H)) hg hm F.kp lk hcd hb Sg e4 hva (why_gives hB W Sg.nd) TB hcode hmT hu hr L rfl (fun q cl pm cv ctv => rfl) hbody hdb e3.1 e3.2) fun σ H Q ⟨W0, env, s, en, S, P⟩ => ?_
    refine ⟨S.tb.tabs, fun H1 eN tb1 => ⟨W0, env, s, en, S.extN eN tb1, ?_⟩⟩
    have P : Post X.K M g0 (Rl X.K M) (wE E σ) W0 Q (match evE C m env s with
      | .ok _ s => .ok (.tup [.str [110, 111, 110, 101]]) s
      | .ex x s => at? (whyH C.sub ws x) s
      | .no => .no) := P
    cases h1 : evE C m env s with
    | no => rw [h1] at P; exact P.elim
    | ok d s1 =>
      rw [h1] at P
      exact fun W' H' v L S' r => ⟨by show 1 ≤ sizeLine; decide, fun p hp => (Post.mono P L).tup S' (.cons .str .nil) hp⟩
    | ex x s1 =>
      rw [h1] at P
      intro W' H' cls dd L S' xr
      obtain ⟨d, hd, P2⟩ := Post.at P
      exact why_rl S' xr (Post.mono P2 L) ws (fun z hz => hx x.cls xr.kn z hz) hd
  · cases hB2
end
end Fn

set_option Elab.async false
set_option linter.all false
set_option maxRecDepth 100000
set_option maxHeartbeats 4000000
namespace Fn
open PySem L2 PySem.Spec PyProof.Rows
/-- what is fixed for a def's text -/
structure Tx where
  N : List Str
  glb : String → D → Bool
  call : String → Nat → List String → List Src → Bool
  /-- class, field -/
  fld : String → String → Bool
  /-- class, method, count, keywords, parameters' values -/
  meth : String → String → Nat → List String → List Src → Bool
  make : String → Nat → List String → List Src → Bool
  exc : String → List String → Bool
  /-- the tellers of refusals: their clauses -/
  why : String → List (String × List Nat × List String) → Bool
  qual : Str
/-- within a lambda -/
def Tx.nw (T : Tx) : Tx := { T with why := fun _ _ => false }
/-- a lambda without parameters -/
def noPar : Arguments → Bool
  | ⟨[], [], none, [], [], none, []⟩ => true
  | _ => false
def visB (sc : Scope) (x : Str) : Bool := (match sc.names.lookup x with | some .local => true | some .cell => true | some .free => true | _ => false) && !(x == ("__debug__" : Str)) && !(x == ("__classdict__" : Str))
def isSet : Expr → Bool
  | .Set _ _ _ => true
  | _ => false
def boolR (op : BoolOp) (y : Expr) (rest : List Expr) (pos : Pos) : Expr := match rest with
  | [] => y
  | _ => .BoolOp op (y :: rest) pos
/-- the built-ins by their names -/
def bltNm : Blt → Option (Bool × String)
  | .len => some (false, "len")
  | .abs => some (false, "abs")
  | .list => some (true, "list")
  | .tuple => some (true, "tuple")
  | .dict => some (true, "dict")
  | .sum => some (false, "sum")
  | .any => some (false, "any")
  | .all => some (false, "all")
  | .min => some (false, "min")
  | .max => some (false, "max")
  | .sorted => some (false, "sorted")
  | _ => none
def bltNs : List String := ["len", "abs", "list", "tuple", "dict", "sum", "any", "all", "min", "max", "sorted", "int", "str", "bool", "isinstance", "range", "enumerate", "zip"]
/-- what may be frozen, by its form -/
def frzOk : Expr → Bool
  | .Call _ _ _ _ => true
  | .Name _ _ => true
  | .Subscript _ _ _ => true
  | .ListComp _ _ _ _ => true
  | .DictComp _ _ _ _ _ => true
  | .List _ _ => true
  | .Dict _ _ _ => true
  | .BinOp _ _ _ _ => true
  | .Attribute _ _ _ => true
  | _ => false
theorem frz_true {e : Expr} (h : frzOk e = true) (env : PySem.Env) (whole : Sem Value) : PySem.isTrue e env whole = (do let v ← whole; standAt e.pos; holding [v] (truthy v)) := by cases e <;> first | rfl | cases h
theorem frz_bool {e : Expr} (h : frzOk e = true) (op : BoolOp) (xs : List Expr) (pos : Pos) : e ≠ .BoolOp op xs pos := by intro z; rw [z] at h; cases h
def isTupE : Expr → Bool
  | .Tuple _ _ _ => true
  | _ => false
def ownOf (N : List Str) (own : List Nat) : List (Str × Nat) := own.map fun i => ((N[i]?).getD Str.empty, i)
mutual
def chkE : Tx → ME → Scope → Scope → Expr → Bool
  | T, .var i, sc, _, e => match e with
    | .Name x _ => decide (T.N[i]? = some x) && visB sc x
    | _ => false
  | T, .cst d, _, _, e => match e with
    | .Constant k _ _ => cstOk d k
    | _ => false
  | T, .glb x d, sc, _, e => match e with
    | .Name y _ => decide (y = sOf x) && T.glb x d && glB sc y
    | _ => false
  | T, .bin op a b, sc, wsc, e => match e with
    | .BinOp l o r _ => decide (bopOf o = some op) && chkE T a sc wsc l && chkE T b sc wsc r
    | _ => false
  | T, .neg a, sc, wsc, e => match e with
    | .UnaryOp .USub l _ => chkE T a sc wsc l
    | _ => false
  | T, .not a, sc, wsc, e => match e with
    | .UnaryOp .Not l _ => chkE T a sc wsc l
    | _ => false
  | T, .and a b, sc, wsc, e => match e with
    | .BoolOp .And (x :: y :: rest) pos => chkE T a sc wsc x && chkE T b sc wsc (boolR .And y rest pos)
    | _ => false
  | T, .or a b, sc, wsc, e => match e with
    | .BoolOp .Or (x :: y :: rest) pos => chkE T a sc wsc x && chkE T b sc wsc (boolR .Or y rest pos)
    | _ => false
  | T, .cmp op a b, sc, wsc, e => match e with
    | .Compare l [o] [r] _ => decide (copOf o = some op) && !isSet r && chkE T a sc wsc l && chkE T b sc wsc r
    | _ => false
  | T, .chain o1 o2 a b c, sc, wsc, e => match e with
    | .Compare l [p1, p2] [r, q] _ => decide (copOf p1 = some o1) && decide (copOf p2 = some o2) && !isSet q && chkE T a sc wsc l && chkE T b sc wsc r && chkE T c sc wsc q
    | _ => false
  | T, .isN a, sc, wsc, e => match e with
    | .Compare l [.Is] [.Constant .none _ _] _ => chkE T a sc wsc l
    | _ => false
  | T, .isntN a, sc, wsc, e => match e with
    | .Compare l [.IsNot] [.Constant .none _ _] _ => chkE T a sc wsc l
    | _ => false
  | T, .ite c a b, sc, wsc, e => match e with
    | .IfExp t x y _ => chkE T c sc wsc t && chkE T a sc wsc x && chkE T b sc wsc y
    | _ => false
  | T, .tup es, sc, wsc, e => match e with
    | .Tuple xs _ _ => decide (es.length ≤ 1000) && chkEs T es sc wsc xs
    | _ => false
  | T, .lst _ es, sc, wsc, e => match e with
    | .List xs _ => chkEs T es sc wsc xs
    | _ => false
  | T, .idx a i, sc, wsc, e => match e with
    | .Subscript o b _ => plainIx b && chkE T a sc wsc o && chkE T i sc wsc b
    | _ => false
  | T, .slc _ a lo hi, sc, wsc, e => match e with
    | .Subscript o (.Slice l h none _) _ => chkE T a sc wsc o && chkO T lo sc wsc l && chkO T hi sc wsc h
    | _ => false
  | T, .call f es ks kes pl, sc, wsc, e => match e with
    | .Call (.Name x _) xs kws _ => decide (x = sOf f) && glB sc x && T.call f es.length ks pl && decide (kws.map (·.arg) = (ks.map sOf).map some) && decide (kes.length = ks.length) && (kws.isEmpty || !xs.isEmpty) && chkEs T es sc wsc xs && chkEs T kes sc wsc (kwE kws)
    | _ => false
  | T, .blt (.isi [t]) _ [a], sc, wsc, e => match e with
    | .Call (.Name x _) [l, .Name y _] [] _ => decide (x = ("isinstance" : Str)) && decide (y = tyS t) && glB sc x && glB sc y && !isStar l && chkE T a sc wsc l
    | _ => false
  | T, .blt b _ es, sc, wsc, e => match e with
    | .Call (.Name x _) (l :: xs) [] _ => (match bltNm b with | some (_, n) => decide (x = sOf n) | none => false) && glB sc x && chkEs T es sc wsc (l :: xs)
    | _ => false
  | T, .lc _ own t it ifs (.elt r), sc, wsc, e => match e with
    | .ListComp elt [⟨tg, iter, cifs, 0⟩] scope _ => blkC T.N sc scope (ownOf T.N own) && (slotsT t).all (fun i => decide (i ∈ own)) && chkT T.N (relS scope sc) scope 3 t tg && !isSet iter && chkI T it sc wsc tg iter && chkTs T ifs (relS scope sc) scope cifs && chkE T r (relS scope sc) scope elt
    | _ => false
  | T, .fld cs a f, sc, wsc, e => match e with
    | .Attribute l x _ => decide (x = sOf f) && recvOk l && cs.all (fun c => T.fld c f) && chkE T a sc wsc l
    | _ => false
  | T, .meth c m o es ks kes pl, sc, wsc, e => match e with
    | .Call (.Attribute l x apos) xs kws pos => decide (x = sOf m) && recvOk l && T.meth c m es.length ks pl && decide (kws.map (·.arg) = (ks.map sOf).map some) && decide (kes.length = ks.length) && decide (xs.length + kws.length < 29) && (apos.endLine == pos.line) && chkE T o sc wsc l && chkEs T es sc wsc xs && chkEs T kes sc wsc (kwE kws)
    | _ => false
  | T, .make c es ks kes pl, sc, wsc, e => match e with
    | .Call (.Name x _) xs kws _ => decide (x = sOf c) && glB sc x && T.make c es.length ks pl && decide (kws.map (·.arg) = (ks.map sOf).map some) && decide (kes.length = ks.length) && chkEs T es sc wsc xs && chkEs T kes sc wsc (kwE kws)
    | _ => false
  | T, .why g ws m, sc, _, e => match e with
    | .Call (.Name x _) [.Lambda params body scope _] [] _ => decide (x = sOf g) && glB sc x && T.why g ws && LamX.lamSB sc scope && noPar params && chkE T.nw m scope scope body
    | _ => false
  | T, .frz _ m, sc, wsc, e => frzOk e && chkE T m sc wsc e
  | T, .bme b _ o es, sc, wsc, e => match e with
    | .Call (.Attribute l x apos) xs [] pos => (match bmeNm b with | some (t, n) => decide (t = "list") && decide (x = sOf n) | none => false) && recvOk l && decide (xs.length < 29) && (apos.endLine == pos.line) && chkE T o sc wsc l && chkEs T es sc wsc xs
    | _ => false
  | T, .dct _ _ [] [], _, _, e => match e with
    | .Dict [] [] _ => true
    | _ => false
  | _, _, _, _, _ => false
def chkEs : Tx → List ME → Scope → Scope → List Expr → Bool
  | T, [], _, _, xs => match xs with
    | [] => true
    | _ => false
  | T, m :: ms, sc, wsc, xs => match xs with
    | x :: xs => !isStar x && chkE T m sc wsc x && chkEs T ms sc wsc xs
    | _ => false
def chkO : Tx → Option ME → Scope → Scope → Option Expr → Bool
  | T, none, _, _, x => match x with
    | none => true
    | _ => false
  | T, some m, sc, wsc, x => match x with
    | some x => chkE T m sc wsc x
    | _ => false
def chkTs : Tx → List ME → Scope → Scope → List Expr → Bool
  | T, [], _, _, xs => match xs with
    | [] => true
    | _ => false
  | T, m :: ms, sc, wsc, xs => match ms, xs with
    | [], [x] => chkE T m sc wsc x
    | _, _ => false
def chkI : Tx → MI → Scope → Scope → Expr → Expr → Bool
  | T, .it a, sc, wsc, _, e => chkE T a sc wsc e
  | T, .itl a, sc, wsc, _, e => chkE T a sc wsc e
  | T, .rng a, sc, wsc, _, e => match e with
    | .Call (.Name x _) [l] [] _ => decide (x = ("range" : Str)) && glB sc x && !isStar l && chkE T a sc wsc l
    | _ => false
  | T, .rng2 a b, sc, wsc, _, e => match e with
    | .Call (.Name x _) [l, r] [] _ => decide (x = ("range" : Str)) && glB sc x && !isStar l && !isStar r && chkE T a sc wsc l && chkE T b sc wsc r
    | _ => false
  | T, .enum a, sc, wsc, tg, e => match e with
    | .Call (.Name x _) [l] [] _ => decide (x = ("enumerate" : Str)) && glB sc x && !isStar l && isTupE tg && chkE T a sc wsc l
    | _ => false
  | T, .zip a b, sc, wsc, tg, e => match e with
    | .Call (.Name x _) [l, r] [] _ => decide (x = ("zip" : Str)) && glB sc x && !isStar l && !isStar r && isTupE tg && chkE T a sc wsc l && chkE T b sc wsc r
    | _ => false
  | _, _, _, _, _, _ => false
end
/-- a method's parameters -/
def plM (pl : List Src) : List D → List D → Option (List D) := fun ds es => match ds with
  | x :: r => (srcs pl r es).map (x :: ·)
  | [] => none
/-- what holds of a place in a def's text -/
structure SX (T : Tx) (C : Ctx) (M : Nm) (k : Nat) (sc wsc : Scope) (E : WX) (X : Cx) : Prop where
  calm : X.calm = true
  nd : X.N.Nodup
  eN : X.N = T.N
  room : Room (k + 1) X.A
  scope : X.env.scope = sc
  fn : ∀ x, wsc.names.lookup x = some .cell → X.fn x = true
  tk : Takes X E
  glb : ∀ x d, T.glb x d = true → ∃ v u, X.mg (sOf x) = some u ∧ RelV v u ∧ ∀ W, Rl X.K M W v d
  blt : ∀ x ∈ bltNs, X.mg (sOf x) = none
  call : ∀ f n ks pl, T.call f n ks pl = true → ∃ a, X.mg (sOf f) = some (.ref a) ∧ PySem.W.keepIn X.K (.ref a) = true ∧ CallOk X.prog X.w X.K X.mg X.base M (C.call f) k a n (ks.map sOf) (srcs pl)
  fld : ∀ c f, T.fld c f = true → Cls X.K (M.cls c) ∧ NoAttr X.K (M.cls c) (sOf f)
  meth : ∀ c m n ks pl, T.meth c m n ks pl = true → Cls X.K (M.cls c) ∧ ∃ a, Meth X.K (M.cls c) (sOf m) a ∧ CallOk X.prog X.w X.K X.mg X.base M (C.call (c ++ "." ++ m)) k a (n + 1) (ks.map sOf) (plM pl)
  make : ∀ c n ks pl, T.make c n ks pl = true → X.mg (sOf c) = some (.ref (M.cls c)) ∧ ∃ a, Mk X.K (M.cls c) a ∧ CallOk X.prog X.w X.K X.mg X.base M (C.call (c ++ ".__init__")) k a (n + 1) (ks.map sOf) (plM pl)
  roomW : ∀ g ws, T.why g ws = true → Room (k + 3) X.A
  why : ∀ g ws, T.why g ws = true → WhyOk X.prog X.K X.mg X.base M C.sub X.env.code X.env.qual g ws
  exc : ∀ c fs, T.exc c fs = true → X.mg (sOf c) = some (.ref (M.cls c)) ∧ c ∈ M.ex ∧ fs.Nodup ∧ ExcOk X.prog X.w X.K X.mg X.base M k c fs
theorem SX.blk {T : Tx} {C : Ctx} {M : Nm} {k : Nat} {sc wsc : Scope} {E : WX} {X : Cx} (h : SX T C M k sc wsc E X) (scope : Scope) (s : Shared) (H : Hp) (cl : List (Str × Addr)) (D : Addr) (fp : List Addr) :
    SX T C M k (relS scope sc) scope noE (X.blk s H scope (compEnvC scope cl D X.env) fp) :=
  ⟨h.calm, h.nd, h.eN, h.room, by show relS scope X.env.scope = _; rw [h.scope], fun x q => by show (scope.names.lookup x == some NameKind.cell) = true; rw [q]; rfl, fun u s' ⟨_, _, _, _, _, _, _, _, _, _, _, _, _, _, _, _, w⟩ => w.elim, h.glb, h.blt, h.call, h.fld, h.meth, h.make, h.roomW, h.why, h.exc⟩
/-- within a lambda -/
theorem SX.lam {T : Tx} {C : Ctx} {M : Nm} {k : Nat} {sc wsc : Scope} {E : WX} {X : Cx} (h : SX T C M k sc wsc E X) {scope : Scope} (L : LamX.LamS X.env.scope scope) {A : Around} {outer : List PySem.Env} {s : Shared} {H : Hp} {E' : XK} {f c' : Addr} (hr : Room (k + 1) (A.deeper (LamX.lamEnv X scope s.heap.objs.size f c'))) :
    SX T.nw C M k scope scope (fun cls d _ H => E' cls d H) (LamX.lamCx X A outer s H E' scope f c') :=
  ⟨rfl, h.nd, h.eN, hr, rfl, fun x q => absurd rfl (L.own _ (PySem.mem_of_lookup q)).2, takes_of rfl rfl rfl rfl, h.glb, h.blt, h.call, h.fld, h.meth, h.make, fun _ _ z => (by cases z), fun _ _ z => (by cases z), h.exc⟩
section
variable {T : Tx} {C : Ctx} {M : Nm} {g : Nat → Prop} {k : Nat} {sc wsc : Scope} {E : WX} {X : Cx}
theorem SX.gl (h : SX T C M k sc wsc E X) {x : Str} (q : glB sc x = true) : Gl X x ∧ (x == ("__debug__" : Str)) = false := by
  unfold glB at q
  simp only [Bool.and_eq_true, Bool.not_eq_true'] at q
  refine ⟨?_, q.2⟩
  have q1 := q.1
  split at q1
  · rename_i e
    show X.env.scope.names.lookup x = _
    rw [h.scope]
    exact e
  · cases q1
theorem SX.vis (h : SX T C M k sc wsc E X) {x : Str} (q : visB sc x = true) : Vis X.env.scope x ∧ (x == ("__debug__" : Str)) = false ∧ (x == ("__classdict__" : Str)) = false := by
  unfold visB at q
  simp only [Bool.and_eq_true, Bool.not_eq_true'] at q
  refine ⟨?_, q.1.2, q.2⟩
  have q1 := q.1.1
  unfold Vis
  rw [h.scope]
  split at q1
  · rename_i e; exact .inl e
  · rename_i e; exact .inr (.inl e)
  · rename_i e; exact .inr (.inr e)
  · cases q1
theorem SX.un (h : SX T C M k sc wsc E X) : X.A.units + 65 < cLine := by
  have := h.room.un
  omega
/-- what is shown of a term -/
abbrev Snd (C : Ctx) (M : Nm) (g : Nat → Prop) (k : Nat) (m : ME) : Prop := ∀ {T : Tx} (sc wsc : Scope) (E : WX) (X : Cx) (e : Expr), SX T C M k sc wsc E X → chkE T m sc wsc e = true →
  PE X e (TF X.K M g (evE C m) E) ∧ PT X e (TT' X.K M g (tst (evE C m)) E) ∧ ∀ op xs pos, e = .BoolOp op xs pos → PW X e (TT' X.K M g (tst (evE C m)) E)
abbrev SndEs (C : Ctx) (M : Nm) (g : Nat → Prop) (k : Nat) (ms : List ME) : Prop := ∀ {T : Tx} (sc wsc : Scope) (E : WX) (X : Cx) (es : List Expr), SX T C M k sc wsc E X → chkEs T ms sc wsc es = true →
  PA X es (TA' X.K M g (evEs C ms) E) ∧ (es.all fun e => !isStar e) = true ∧ es.length = ms.length ∧ ∀ kws, kwE kws = es → PK X kws (TA' X.K M g (evEs C ms) E)
abbrev SndO (C : Ctx) (M : Nm) (g : Nat → Prop) (k : Nat) (m : Option ME) : Prop := ∀ {T : Tx} (sc wsc : Scope) (E : WX) (X : Cx) (e : Option Expr), SX T C M k sc wsc E X → chkO T m sc wsc e = true → PO X e (TO' X.K M g (evO C m) E)
abbrev SndT (C : Ctx) (M : Nm) (g : Nat → Prop) (k : Nat) (ms : List ME) : Prop := ∀ {T : Tx} (sc wsc : Scope) (E : WX) (X : Cx) (es : List Expr), SX T C M k sc wsc E X → chkTs T ms sc wsc es = true → PTs X es (TT' X.K M g (evTs C ms) E)
abbrev SndI (C : Ctx) (M : Nm) (g : Nat → Prop) (k : Nat) (m : MI) : Prop := ∀ {T : Tx} (sc wsc : Scope) (E : WX) (X : Cx) (tg e : Expr), SX T C M k sc wsc E X → chkI T m sc wsc tg e = true → PI X tg e (TI' X M g (evI C m) E)
/-- terms whose test is their value's truth -/
theorem plainT {m : ME} {e : Expr} (h : PE X e (TF X.K M g (evE C m) E)) (hi : ∀ whole, PySem.isTrue e X.env whole = (do let v ← whole; standAt e.pos; holding [v] (truthy v))) (hb : ∀ op xs pos, e ≠ .BoolOp op xs pos) :
    PE X e (TF X.K M g (evE C m) E) ∧ PT X e (TT' X.K M g (tst (evE C m)) E) ∧ ∀ op xs pos, e = .BoolOp op xs pos → PW X e (TT' X.K M g (tst (evE C m)) E) := ⟨h, st_any h hi, fun op xs pos z => absurd z (hb op xs pos)⟩
theorem bltOk (hX : SX T C M k sc wsc E X) {b : Blt} {m : Bool} {ty : Bool} {n : String} (h : bltNm b = some (ty, n)) : (ty = false → CallR X (.builtin n) (rN X.K M g (bltE b m)) ∧ bootBuiltins (sOf n) = some (.builtin n)) ∧ (ty = true → CallR X (.type n) (rN X.K M g (bltE b m)) ∧ bootBuiltins (sOf n) = some (.type n)) ∧ X.mg (sOf n) = none ∧ sOf n ≠ ("__name__" : Str) := by
  have hc := hX.calm
  have hb := hX.blt
  cases b <;> cases h <;> refine ⟨fun z => ?_, fun z => ?_, hb _ (by decide), by decide +kernel⟩ <;> first | (cases z; done) | skip
  · exact ⟨b_len, by decide +kernel⟩
  · exact ⟨b_abs, by decide +kernel⟩
  · exact ⟨b_list hc, by decide +kernel⟩
  · exact ⟨b_tuple, by decide +kernel⟩
  · exact ⟨b_dict, by decide +kernel⟩
  · exact ⟨b_sorted hc, by decide +kernel⟩
  · exact ⟨b_sum hc, by decide +kernel⟩
  · exact ⟨b_any hc, by decide +kernel⟩
  · exact ⟨b_all hc, by decide +kernel⟩
  · exact ⟨b_min hc, by decide +kernel⟩
  · exact ⟨b_max hc, by decide +kernel⟩
end
end Fn

set_option Elab.async false
set_option linter.all false
set_option maxRecDepth 100000
set_option maxHeartbeats 8000000
namespace Fn
open PySem L2 PySem.Spec PyProof.Rows
section
variable {T : Tx} {C : Ctx} {M : Nm} {g : Nat → Prop} {k : Nat}
theorem bl_bool {f : FE} {env : Env} {s s' : Sto} {d : D} {r : R D} {o : Option Bool} (h : at? (o.map .bl) s = .ok d s') : ∃ k, d = .bl k := by
  cases o with
  | none => cases h
  | some k => cases h; exact ⟨k, rfl⟩
theorem sol_cmp {K : PySem.W.Frag} {X : Cx} {E : WX} {fa fb : FE} {a b : Expr} {o : CmpOp} {c : Cop} {pos : Pos} (ho : OpR X (compareOp o) (r2 X.K M g (cmpV c))) (ha : PE X a (TF X.K M g fa E)) (hb : PE X b (TF X.K M g fb E)) (hm : behindInMarks o b = false) :
    PE X (.Compare a [o] [b] pos) (TF X.K M g (fun env s => (fa env s).bind fun x s => (fb env s).bind fun y s => cmpV c x y s) E) ∧ PT X (.Compare a [o] [b] pos) (TT' X.K M g (tst fun env s => (fa env s).bind fun x s => (fb env s).bind fun y s => cmpV c x y s) E) :=
  ⟨s_cmp ho ha hb hm, st_cmp (o := fun x y s => cmp c x y s) ho ha hb hm⟩
theorem own_eq (N : List Str) (own : List Nat) : (ownOf N own).map (·.2) = own := by
  unfold ownOf
  rw [List.map_map]
  have : ((fun x : Str × Nat => x.2) ∘ fun i => ((N[i]?).getD Str.empty, i)) = id := by funext i; rfl
  rw [this, List.map_id]
theorem nofold {iter : Expr} (h : isSet iter = false) (env : PySem.Env) (x : Value) : foldedSetIterable iter env x = pure x := by
  cases iter <;> first | rfl | cases h
theorem tupE {tg : Expr} (h : isTupE tg = true) : ∃ es kk p, tg = .Tuple es kk p := by
  cases tg <;> first | exact ⟨_, _, _, rfl⟩ | cases h
theorem evTs_one (m : ME) : evTs C [m] = tst (evE C m) := by
  funext env s
  show (evE C m env s).bind _ = (evE C m env s).bind _
  congr 1
  funext d s
  show (match truth d s with | some true => R.ok true s | some false => .ok false s | none => .no) = at? (truth d s) s
  cases truth d s with
  | none => rfl
  | some b => cases b <;> rfl
theorem boolR_ok {X : Cx} {E : WX} {f : FE} {op : BoolOp} {y : Expr} {rest : List Expr} {pos : Pos} (h : PE X (boolR op y rest pos) (TF X.K M g f E) ∧ PT X (boolR op y rest pos) (TT' X.K M g (tst f) E) ∧ ∀ o xs p, boolR op y rest pos = .BoolOp o xs p → PW X (boolR op y rest pos) (TT' X.K M g (tst f) E)) :
    PE X (.BoolOp op (y :: rest) pos) (TF X.K M g f E) ∧ PW X (.BoolOp op (y :: rest) pos) (TT' X.K M g (tst f) E) := by
  cases rest with
  | nil => exact ⟨pe_one h.1, st_one h.2.1 op⟩
  | cons z r => exact ⟨h.1, h.2.2 _ _ _ rfl⟩
theorem sndB_no {sc wsc : Scope} {es : List ME} {ts : List Ty} {e : Expr} (h : (match e with
    | .Call (.Name x _) (l :: xs) [] _ => (match bltNm (.isi ts) with | some (_, n) => decide (x = sOf n) | none => false) && glB sc x && chkEs T es sc wsc (l :: xs)
    | _ => false) = true) : False := by
  split at h
  · simp [bltNm] at h
  · cases h
theorem sndB {b : Blt} {m : Bool} {es : List ME} (hs : SndEs C M g k es) {sc wsc : Scope} {E : WX} {X : Cx} {e : Expr} (hX : SX T C M k sc wsc E X) (h : (match e with
    | .Call (.Name x _) (l :: xs) [] _ => (match bltNm b with | some (_, n) => decide (x = sOf n) | none => false) && glB sc x && chkEs T es sc wsc (l :: xs)
    | _ => false) = true) : PE X e (TF X.K M g (evE C (.blt b m es)) E) ∧ PT X e (TT' X.K M g (tst (evE C (.blt b m es))) E) ∧ ∀ op xs pos, e = .BoolOp op xs pos → PW X e (TT' X.K M g (tst (evE C (.blt b m es))) E) := by
  split at h
  · rename_i x p l xs pos
    simp only [Bool.and_eq_true] at h
    obtain ⟨⟨h1, h2⟩, h3⟩ := h
    have qs := hs sc wsc E X _ hX h3
    split at h1
    · rename_i ty n hb
      have h1 := of_decide_eq_true h1
      subst h1
      obtain ⟨b1, b2, b3, b4⟩ := bltOk (g := g) hX (m := m) hb
      obtain ⟨g1, g2⟩ := hX.gl h2
      cases ty with
      | false => exact plainT (s_bltB (b1 rfl).1 g1 b3 (b1 rfl).2 b4 g2 qs.2.1 qs.1) (fun _ => rfl) (fun _ _ _ z => by cases z)
      | true => exact plainT (s_bltT (b2 rfl).1 g1 b3 (b2 rfl).2 b4 g2 qs.2.1 qs.1) (fun _ => rfl) (fun _ _ _ z => by cases z)
    · cases h1
  · cases h
theorem PE.orDn {X : Cx} {e : Expr} {t t' : TE} (h : PE X e t) (h' : PE X e t') : PE X e (fun σ H Q => t σ H Q ∨ t' σ H Q) := ⟨fun pins s σ H Q I q => q.elim (h.run pins s σ H Q I) (h'.run pins s σ H Q I)⟩
mutual
theorem sndE : ∀ m : ME, Snd C M g k m
  | .var i => fun sc wsc E X e hX h => by
    simp only [chkE] at h
    split at h
    · rename_i x p
      simp only [Bool.and_eq_true, decide_eq_true_eq] at h
      obtain ⟨v1, v2, v3⟩ := hX.vis h.2
      exact plainT (s_var (by rw [hX.eN]; exact h.1) v1 v2 v3) (fun _ => rfl) (fun _ _ _ z => by cases z)
    · cases h
  | .cst d => fun sc wsc E X e hX h => by
    simp only [chkE] at h
    split at h
    · exact plainT (s_cst h) (fun _ => rfl) (fun _ _ _ z => by cases z)
    · cases h
  | .glb x d => fun sc wsc E X e hX h => by
    simp only [chkE] at h
    split at h
    · rename_i y p
      simp only [Bool.and_eq_true, decide_eq_true_eq] at h
      obtain ⟨⟨h1, h2⟩, h3⟩ := h
      obtain ⟨v, u, q1, q2, q3⟩ := hX.glb x d h2
      obtain ⟨g1, g2⟩ := hX.gl h3
      subst h1
      exact plainT (s_con (pe_glob g1 q1 q2 g2) q3) (fun _ => rfl) (fun _ _ _ z => by cases z)
    · cases h
  | .bin op a b => fun sc wsc E X e hX h => by
    simp only [chkE] at h
    split at h
    · simp only [Bool.and_eq_true, decide_eq_true_eq] at h
      obtain ⟨⟨h1, h2⟩, h3⟩ := h
      have qa := sndE a sc wsc E X _ hX h2
      have qb := sndE b sc wsc E X _ hX h3
      exact plainT (s_op (o_bin h1) qa.1 qb.1) (fun _ => rfl) (fun _ _ _ z => by cases z)
    · cases h
  | .neg a => fun sc wsc E X e hX h => by
    simp only [chkE] at h
    split at h
    · have qa := sndE a sc wsc E X _ hX h
      exact plainT (s_neg qa.1) (fun _ => rfl) (fun _ _ _ z => by cases z)
    · cases h
  | .not a => fun sc wsc E X e hX h => by
    simp only [chkE] at h
    split at h
    · have qa := sndE a sc wsc E X _ hX h
      exact ⟨s_not qa.1, st_not qa.2.1, fun _ _ _ z => by cases z⟩
    · cases h
  | .and a b => fun sc wsc E X e hX h => by
    simp only [chkE] at h
    split at h
    · simp only [Bool.and_eq_true] at h
      have qa := sndE a sc wsc E X _ hX h.1
      have qb := boolR_ok (sndE b sc wsc E X _ hX h.2)
      have w := st_and qa.2.1 qb.2
      exact ⟨s_and qa.1 qb.1, w.pt, fun _ _ _ _ => w⟩
    · cases h
  | .or a b => fun sc wsc E X e hX h => by
    simp only [chkE] at h
    split at h
    · simp only [Bool.and_eq_true] at h
      have qa := sndE a sc wsc E X _ hX h.1
      have qb := boolR_ok (sndE b sc wsc E X _ hX h.2)
      have w := st_or qa.2.1 qb.2
      exact ⟨s_or qa.1 qb.1, w.pt, fun _ _ _ _ => w⟩
    · cases h
  | .cmp op a b => fun sc wsc E X e hX h => by
    simp only [chkE] at h
    split at h
    · rename_i l o r pos
      simp only [Bool.and_eq_true, decide_eq_true_eq, Bool.not_eq_true'] at h
      obtain ⟨⟨⟨h1, h0⟩, h2⟩, h3⟩ := h
      have qa := sndE a sc wsc E X _ hX h2
      have qb := sndE b sc wsc E X _ hX h3
      have q := sol_cmp (K := X.K) (g := g) (pos := pos) (o_cmp hX.un h1) qa.1 qb.1 (nomark h0 _)
      exact ⟨q.1, q.2, fun _ _ _ z => by cases z⟩
    · cases h
  | .chain o1 o2 a b c => fun sc wsc E X e hX h => by
    simp only [chkE] at h
    split at h
    · rename_i l p1 p2 r q pos
      simp only [Bool.and_eq_true, decide_eq_true_eq, Bool.not_eq_true'] at h
      obtain ⟨⟨⟨⟨⟨h1, h2⟩, h0⟩, h3⟩, h4⟩, h5⟩ := h
      have qa := sndE a sc wsc E X _ hX h3
      have qb := sndE b sc wsc E X _ hX h4
      have qc := sndE c sc wsc E X _ hX h5
      have hm : lastMarks [p1, p2] [r, q] = false := nomark h0 p2
      exact ⟨s_chain (o_cmp hX.un h1) (o_cmp hX.un h2) qa.1 qb.1 qc.1 hm, st_chain (o_cmp hX.un h1) (o_cmp hX.un h2) qa.1 qb.1 qc.1 hm, fun _ _ _ z => by cases z⟩
    · cases h
  | .isN a => fun sc wsc E X e hX h => by
    simp only [chkE] at h
    split at h
    · have qa := sndE a sc wsc E X _ hX h
      exact ⟨s_isN qa.1, st_isN qa.1, fun _ _ _ z => by cases z⟩
    · cases h
  | .isntN a => fun sc wsc E X e hX h => by
    simp only [chkE] at h
    split at h
    · have qa := sndE a sc wsc E X _ hX h
      exact ⟨s_isntN qa.1, st_isntN qa.1, fun _ _ _ z => by cases z⟩
    · cases h
  | .ite c a b => fun sc wsc E X e hX h => by
    simp only [chkE] at h
    split at h
    · simp only [Bool.and_eq_true] at h
      have qc := sndE c sc wsc E X _ hX h.1.1
      have qa := sndE a sc wsc E X _ hX h.1.2
      have qb := sndE b sc wsc E X _ hX h.2
      exact ⟨s_ite qc.2.1 qa.1 qb.1, st_ite qc.2.1 qa.2.1 qb.2.1, fun _ _ _ z => by cases z⟩
    · cases h
  | .tup es => fun sc wsc E X e hX h => by
    simp only [chkE] at h
    split at h
    · simp only [Bool.and_eq_true, decide_eq_true_eq] at h
      exact plainT (s_tup h.1 (sndEs es sc wsc E X _ hX h.2).1) (fun _ => rfl) (fun _ _ _ z => by cases z)
    · cases h
  | .lst m es => fun sc wsc E X e hX h => by
    simp only [chkE] at h
    split at h
    · exact plainT (s_lst (sndEs es sc wsc E X _ hX h).1) (fun _ => rfl) (fun _ _ _ z => by cases z)
    · cases h
  | .idx a i => fun sc wsc E X e hX h => by
    simp only [chkE] at h
    split at h
    · simp only [Bool.and_eq_true] at h
      have qa := sndE a sc wsc E X _ hX h.1.2
      have qb := sndE i sc wsc E X _ hX h.2
      exact plainT (s_idx (by have := hX.un; omega) h.1.1 qa.1 qb.1) (fun _ => rfl) (fun _ _ _ z => by cases z)
    · cases h
  | .slc m a lo hi => fun sc wsc E X e hX h => by
    simp only [chkE] at h
    split at h
    · simp only [Bool.and_eq_true] at h
      have qa := sndE a sc wsc E X _ hX h.1.1
      have ql := sndO lo sc wsc E X _ hX h.1.2
      have qh := sndO hi sc wsc E X _ hX h.2
      exact plainT (s_slc qa.1 ql qh) (fun _ => rfl) (fun _ _ _ z => by cases z)
    · cases h
  | .call f es ks kes pl => fun sc wsc E X e hX h => by
    simp only [chkE] at h
    split at h
    · simp only [Bool.and_eq_true, decide_eq_true_eq, Bool.or_eq_true, Bool.not_eq_true'] at h
      obtain ⟨⟨⟨⟨⟨⟨⟨h1, h2⟩, h3⟩, h4⟩, h5⟩, h6⟩, h7⟩, h8⟩ := h
      obtain ⟨a, q1, q2, q3⟩ := hX.call f es.length ks pl h3
      obtain ⟨g1, g2⟩ := hX.gl h2
      have qs := sndEs es sc wsc E X _ hX h7
      have qk := sndEs kes sc wsc E X _ hX h8
      subst h1
      refine plainT (s_call q3 (hX.room.mono (Nat.le_succ _)) hX.tk g1 q1 q2 g2 qs.2.1 qs.1 (qk.2.2.2 _ rfl) h4 qs.2.2.1 rfl (by rw [h5, List.length_map]) ?_) (fun _ => rfl) (fun _ _ _ z => by cases z)
      rcases h6 with h6 | h6
      · exact .inl (List.isEmpty_iff.mp h6)
      · exact .inr fun z => by rw [z] at h6; cases h6
    · cases h
  | .blt (.isi [t]) m [a] => fun sc wsc E X e hX h => by
    simp only [chkE] at h
    split at h
    · simp only [Bool.and_eq_true, decide_eq_true_eq, Bool.not_eq_true'] at h
      obtain ⟨⟨⟨⟨⟨h1, h2⟩, h3⟩, h4⟩, h5⟩, h6⟩ := h
      have qa := sndE a sc wsc E X _ hX h6
      subst h1 h2
      refine plainT (s_isi (hX.gl h3).1 (hX.blt "isinstance" (by decide)) (hX.gl h4).1 ?_ h5 qa.1) (fun _ => rfl) (fun _ _ _ z => by cases z)
      cases t
      · exact hX.blt "int" (by decide)
      · exact hX.blt "bool" (by decide)
      · exact hX.blt "str" (by decide)
      · exact hX.blt "list" (by decide)
      · exact hX.blt "tuple" (by decide)
    · cases h
  | .blt (.isi []) m es => fun sc wsc E X e hX h => by simp only [chkE] at h; exact (sndB_no (ts := []) h).elim
  | .blt (.isi [t1]) m [] => fun sc wsc E X e hX h => by simp only [chkE] at h; exact (sndB_no (ts := [t1]) h).elim
  | .blt (.isi [t1]) m (_ :: _ :: _) => fun sc wsc E X e hX h => by simp only [chkE] at h; exact (sndB_no (ts := [t1]) h).elim
  | .blt (.isi (t1 :: t2 :: tr)) m es => fun sc wsc E X e hX h => by simp only [chkE] at h; exact (sndB_no (ts := t1 :: t2 :: tr) h).elim
  | .blt .len m es => fun sc wsc E X e hX h => by simp only [chkE] at h; exact sndB (sndEs es) hX h
  | .blt .abs m es => fun sc wsc E X e hX h => by simp only [chkE] at h; exact sndB (sndEs es) hX h
  | .blt .list m es => fun sc wsc E X e hX h => by simp only [chkE] at h; exact sndB (sndEs es) hX h
  | .blt .tuple m es => fun sc wsc E X e hX h => by simp only [chkE] at h; exact sndB (sndEs es) hX h
  | .blt .dict m es => fun sc wsc E X e hX h => by simp only [chkE] at h; exact sndB (sndEs es) hX h
  | .blt .sorted m es => fun sc wsc E X e hX h => by simp only [chkE] at h; exact sndB (sndEs es) hX h
  | .blt .sum m es => fun sc wsc E X e hX h => by simp only [chkE] at h; exact sndB (sndEs es) hX h
  | .blt .any m es => fun sc wsc E X e hX h => by simp only [chkE] at h; exact sndB (sndEs es) hX h
  | .blt .all m es => fun sc wsc E X e hX h => by simp only [chkE] at h; exact sndB (sndEs es) hX h
  | .blt .int m es => fun sc wsc E X e hX h => by simp only [chkE] at h; exact sndB (sndEs es) hX h
  | .blt .str m es => fun sc wsc E X e hX h => by simp only [chkE] at h; exact sndB (sndEs es) hX h
  | .blt .min m es => fun sc wsc E X e hX h => by simp only [chkE] at h; exact sndB (sndEs es) hX h
  | .blt .max m es => fun sc wsc E X e hX h => by simp only [chkE] at h; exact sndB (sndEs es) hX h
  | .blt .minD m es => fun sc wsc E X e hX h => by simp only [chkE] at h; exact sndB (sndEs es) hX h
  | .blt .maxD m es => fun sc wsc E X e hX h => by simp only [chkE] at h; exact sndB (sndEs es) hX h
  | .lc m own t it ifs (.elt r) => fun sc wsc E X e hX h => by
    simp only [chkE] at h
    split at h
    · rename_i elt tg iter cifs scope pos
      simp only [Bool.and_eq_true, Bool.not_eq_true', List.all_eq_true, decide_eq_true_eq] at h
      obtain ⟨⟨⟨⟨⟨⟨h1, h2⟩, h3⟩, h4⟩, h5⟩, h6⟩, h7⟩ := h
      have qi := sndI it sc wsc E X tg iter hX h5
      have ok := blkOk_by h1
      rw [← hX.eN, ← hX.scope] at ok
      have q := s_lc (m := m) (pos := pos) hX.calm hX.nd qi ok (by rw [own_eq]; exact h2) (fun s H D cl fp => chkT_ok (M := M) (g := g) (X := X.blk s H scope (compEnvC scope cl D X.env) fp) (wsc := scope) hX.calm hX.nd (fun x q => by show (scope.names.lookup x == some NameKind.cell) = true; rw [q]; rfl) 3 t tg (by
          show chkT X.N (relS scope X.env.scope) scope 3 t tg = true
          rw [hX.eN, hX.scope]; exact h3))
        (fun s H D cl fp => sndTs ifs _ _ _ _ cifs (hX.blk scope s H cl D fp) h6) (fun s H D cl fp => (sndE r _ _ _ _ elt (hX.blk scope s H cl D fp) h7).1) (nofold h4 X.env)
      rw [own_eq] at q
      exact plainT q (fun _ => rfl) (fun _ _ _ z => by cases z)
    · cases h
  | .lc _ _ _ _ _ (.cl _ _ _ _) => fun sc wsc E X e hX h => by simp only [chkE] at h; cases h
  | .dct m t [] [] => fun sc wsc E X e hX h => by
    simp only [chkE] at h
    split at h
    · refine plainT (PE.imp (PE.orDn pe_dnewK pe_dnewT) fun σ H Q ⟨W, env, s, en, S, P⟩ => ?_) (fun _ => rfl) (fun _ _ _ z => by cases z)
      have P : Post X.K M g (Rl X.K M) (wE E σ) W Q (if ([] : List (GKey × D)).all (fun p => p.1.isT == t) = true ∧ ([] : List (GKey × D)).length ≤ 15 then mkOb m (.dct t []) s else .no) := P
      rw [if_pos ⟨rfl, by decide⟩] at P
      cases t with
      | false => exact .inl fun p hp => P.mk S (.dk .nil) hp
      | true => exact .inr fun p hp => P.mk S (.dt .nil) hp
    · cases h
  | .dct _ _ (_ :: _) _ => fun sc wsc E X e hX h => by simp only [chkE] at h; cases h
  | .dct _ _ [] (_ :: _) => fun sc wsc E X e hX h => by simp only [chkE] at h; cases h
  | .fld cs a f => fun sc wsc E X e hX h => by
    simp only [chkE] at h
    split at h
    · simp only [Bool.and_eq_true, decide_eq_true_eq, List.all_eq_true] at h
      obtain ⟨⟨⟨h1, h2⟩, h3⟩, h4⟩ := h
      subst h1
      exact plainT (s_fld (fun c hc => hX.fld c f (h3 c hc)) (sndE a sc wsc E X _ hX h4).1 h2) (fun _ => rfl) (fun _ _ _ z => by cases z)
    · cases h
  | .meth c m o es ks kes pl => fun sc wsc E X e hX h => by
    simp only [chkE] at h
    split at h
    · simp only [Bool.and_eq_true, decide_eq_true_eq] at h
      obtain ⟨⟨⟨⟨⟨⟨⟨⟨⟨h1, h2⟩, h3⟩, h4⟩, h5⟩, h6⟩, h7⟩, h8⟩, h9⟩, h10⟩ := h
      subst h1
      obtain ⟨q1, a, q2, q3⟩ := hX.meth c m es.length ks pl h3
      have qs := sndEs es sc wsc E X _ hX h9
      have qk := sndEs kes sc wsc E X _ hX h10
      exact plainT (s_meth q1 q2 q3 (hX.room.mono (Nat.le_succ _)) hX.tk h2 (sndE o sc wsc E X _ hX h8).1 qs.2.1 qs.1 (qk.2.2.2 _ rfl) h4 qs.2.2.1 rfl (by rw [List.length_map]; exact h5) h6 h7) (fun _ => rfl) (fun _ _ _ z => by cases z)
    · cases h
  | .make c es ks kes pl => fun sc wsc E X e hX h => by
    simp only [chkE] at h
    split at h
    · simp only [Bool.and_eq_true, decide_eq_true_eq] at h
      obtain ⟨⟨⟨⟨⟨⟨h1, h2⟩, h3⟩, h4⟩, h5⟩, h9⟩, h10⟩ := h
      obtain ⟨g1, g2⟩ := hX.gl h2
      subst h1
      obtain ⟨q1, a, q2, q3⟩ := hX.make c es.length ks pl h3
      have qs := sndEs es sc wsc E X _ hX h9
      have qk := sndEs kes sc wsc E X _ hX h10
      exact plainT (s_make q2 q1 q3 hX.room hX.tk g1 g2 qs.2.1 qs.1 (qk.2.2.2 _ rfl) h4 qs.2.2.1 rfl (by rw [List.length_map]; exact h5)) (fun _ => rfl) (fun _ _ _ z => by cases z)
    · cases h
  | .bme b m o es => fun sc wsc E X e hX h => by
    simp only [chkE] at h
    split at h
    · simp only [Bool.and_eq_true, decide_eq_true_eq] at h
      obtain ⟨⟨⟨⟨⟨h1, h2⟩, h6⟩, h7⟩, h8⟩, h9⟩ := h
      split at h1
      · rename_i t n hb
        simp only [Bool.and_eq_true, decide_eq_true_eq] at h1
        obtain ⟨rfl, rfl⟩ := h1
        have qs := sndEs es sc wsc E X _ hX h9
        exact plainT (s_bme hX.un hb h2 (sndE o sc wsc E X _ hX h8).1 qs.2.1 qs.1 qs.2.2.1 h6 h7) (fun _ => rfl) (fun _ _ _ z => by cases z)
      · cases h1
    · cases h
  | .lrng _ _ => fun sc wsc E X e hX h => by simp only [chkE] at h; cases h
  | .why g0 ws m => fun sc wsc E X e hX h => by
    simp only [chkE] at h
    split at h
    · rename_i x p params body scope lp pos
      simp only [Bool.and_eq_true, decide_eq_true_eq] at h
      obtain ⟨⟨⟨⟨⟨h1, h2⟩, h3⟩, h4⟩, h5⟩, h6⟩ := h
      obtain ⟨g1, g2⟩ := hX.gl h2
      subst h1
      have L : LamX.LamS X.env.scope scope := LamX.lamS_by (by rw [hX.scope]; exact h4)
      have hp : params = ⟨[], [], none, [], [], none, []⟩ := by
        unfold noPar at h5
        split at h5
        · rfl
        · cases h5
      subst hp
      exact plainT (s_why (hX.why _ _ h3) g1 g2 (hX.roomW _ _ h3) L fun A outer s H E' f c' hr => (sndE m _ _ _ _ _ (hX.lam L hr) h6).1) (fun _ => rfl) (fun _ _ _ z => by cases z)
    · cases h
  | .sset _ _ => fun sc wsc E X e hX h => by simp only [chkE] at h; cases h
  | .dc _ _ _ _ _ _ _ _ => fun sc wsc E X e hX h => by simp only [chkE] at h; cases h
  | .fst _ => fun sc wsc E X e hX h => by simp only [chkE] at h; cases h
  | .xf _ => fun sc wsc E X e hX h => by simp only [chkE] at h; cases h
  | .frz n m => fun sc wsc E X e hX h => by
    simp only [chkE, Bool.and_eq_true] at h
    exact plainT (s_frz (sndE m sc wsc E X e hX h.2).1) (frz_true h.1 X.env) (frz_bool h.1)
theorem sndEs : ∀ ms : List ME, SndEs C M g k ms
  | [] => fun sc wsc E X es hX h => by
    simp only [chkEs] at h
    split at h
    · exact ⟨a_nil, rfl, rfl, fun kws hk => by
        cases kws with
        | nil => exact k_nil
        | cons _ _ => cases hk⟩
    · cases h
  | m :: ms => fun sc wsc E X es hX h => by
    simp only [chkEs] at h
    split at h
    · rename_i x xs
      simp only [Bool.and_eq_true, Bool.not_eq_true'] at h
      obtain ⟨⟨h1, h2⟩, h3⟩ := h
      have qa := sndE m sc wsc E X _ hX h2
      have qs := sndEs ms sc wsc E X _ hX h3
      refine ⟨a_cons h1 qa.1 qs.1, by simp only [List.all_cons, h1, qs.2.1]; rfl, congrArg Nat.succ qs.2.2.1, fun kws hk => ?_⟩
      cases kws with
      | nil => cases hk
      | cons kw kws =>
        have hk := List.cons.inj (show kw.value :: kwE kws = x :: xs from hk)
        obtain ⟨nm, e, p⟩ := kw
        have h0 : e = x := hk.1
        subst h0
        exact k_cons qa.1 (qs.2.2.2 kws hk.2)
    · cases h
theorem sndO : ∀ m : Option ME, SndO C M g k m
  | none => fun sc wsc E X e hX h => by
    simp only [chkO] at h
    split at h
    · exact s_po0
    · cases h
  | some m => fun sc wsc E X e hX h => by
    simp only [chkO] at h
    split at h
    · exact s_po1 (sndE m sc wsc E X _ hX h).1
    · cases h
theorem sndTs : ∀ ms : List ME, SndT C M g k ms
  | [] => fun sc wsc E X es hX h => by
    simp only [chkTs] at h
    split at h
    · exact ⟨fun pins s σ H Q I ⟨W, env, st, e, S, P⟩ => pts_nil.run pins s σ H Q I (P W H true .refl S rfl)⟩
    · cases h
  | m :: ms => fun sc wsc E X es hX h => by
    simp only [chkTs] at h
    split at h
    · rw [evTs_one]
      exact pts_one (sndE m sc wsc E X _ hX h).2.1
    · cases h
theorem sndI : ∀ m : MI, SndI C M g k m
  | .it a => fun sc wsc E X tg e hX h => by
    simp only [chkI] at h
    exact pi_it (sndE a sc wsc E X _ hX h).1
  | .itl a => fun sc wsc E X tg e hX h => by
    simp only [chkI] at h
    exact piS (pi_itl (sndE a sc wsc E X _ hX h).1)
  | .rng a => fun sc wsc E X tg e hX h => by
    simp only [chkI] at h
    split at h
    · simp only [Bool.and_eq_true, decide_eq_true_eq, Bool.not_eq_true'] at h
      obtain ⟨⟨⟨h1, h2⟩, h3⟩, h4⟩ := h
      subst h1
      exact pi_rng1 (hX.gl h2).1 (hX.blt "range" (by decide)) h3 (sndE a sc wsc E X _ hX h4).1
    · cases h
  | .rng2 a b => fun sc wsc E X tg e hX h => by
    simp only [chkI] at h
    split at h
    · simp only [Bool.and_eq_true, decide_eq_true_eq, Bool.not_eq_true'] at h
      obtain ⟨⟨⟨⟨⟨h1, h2⟩, h3⟩, h4⟩, h5⟩, h6⟩ := h
      subst h1
      exact pi_rng2 (hX.gl h2).1 (hX.blt "range" (by decide)) h3 h4 (sndE a sc wsc E X _ hX h5).1 (sndE b sc wsc E X _ hX h6).1
    · cases h
  | .enum a => fun sc wsc E X tg e hX h => by
    simp only [chkI] at h
    split at h
    · simp only [Bool.and_eq_true, decide_eq_true_eq, Bool.not_eq_true'] at h
      obtain ⟨⟨⟨⟨h1, h2⟩, h3⟩, h4⟩, h5⟩ := h
      subst h1
      obtain ⟨es, kk, p, rfl⟩ := tupE h4
      exact pi_en (hX.gl h2).1 (hX.blt "enumerate" (by decide)) h3 (sndE a sc wsc E X _ hX h5).1
    · cases h
  | .zip a b => fun sc wsc E X tg e hX h => by
    simp only [chkI] at h
    split at h
    · simp only [Bool.and_eq_true, decide_eq_true_eq, Bool.not_eq_true'] at h
      obtain ⟨⟨⟨⟨⟨⟨h1, h2⟩, h3⟩, h4⟩, h5⟩, h6⟩, h7⟩ := h
      subst h1
      obtain ⟨es, kk, p, rfl⟩ := tupE h5
      exact pi_zp (hX.gl h2).1 (hX.blt "zip" (by decide)) h3 h4 (sndE a sc wsc E X _ hX h6).1 (sndE b sc wsc E X _ hX h7).1
    · cases h
  | .zip3 _ _ _ => fun sc wsc E X tg e hX h => by simp only [chkI] at h; cases h
  | .items _ => fun sc wsc E X tg e hX h => by simp only [chkI] at h; cases h
  | .vals _ => fun sc wsc E X tg e hX h => by simp only [chkI] at h; cases h
end
end
end Fn

set_option Elab.async false
set_option linter.all false
set_option maxRecDepth 100000
set_option maxHeartbeats 4000000
namespace Fn
open PySem L2 PySem.Spec PyProof.Rows
section
variable (K : PySem.W.Frag) (M : Nm) (g : Nat → Prop)
def PostS (E : WX) (D : Ends) (W : Wd) : RS → Prop
  | .ok .next env s => ∀ W' H' σ', Le W W' → EnvR K M W' σ' env → StR K M W' H' g s → D.nx σ' H'
  | .ok (.ret d) env s => ∀ W' H' v, Le W W' → StR K M W' H' g s → Rl K M W' v d → D.rt v H'
  | .ex x env s => ∀ W' H' σ' cls dd, Le W W' → EnvR K M W' σ' env → StR K M W' H' g s → XR K M W' H' x cls dd → E cls dd σ' H'
  | .no => False
def TS' (f : Env → Sto → RS) (E : WX) : TS := fun D σ H => ∃ W env s, EnvR K M W σ env ∧ StR K M W H g s ∧ PostS K M g E D W (f env s)
end
section
variable {K : PySem.W.Frag} {M : Nm} {g : Nat → Prop} {E : WX} {D D' : Ends} {W W' : Wd} {H : Hp} {s : Sto} {σ : L2.St} {env : Env} {r : RS}
theorem PostS.mono (P : PostS K M g E D W r) (L : Le W W') : PostS K M g E D W' r := by
  match r, P with
  | .ok .next env s, P => exact fun W2 H2 σ2 L2 e S => P W2 H2 σ2 (L.trans L2) e S
  | .ok (.ret d) env s, P => exact fun W2 H2 v L2 S r => P W2 H2 v (L.trans L2) S r
  | .ex x env s, P => exact fun W2 H2 σ2 c dd L2 e S x => P W2 H2 σ2 c dd (L.trans L2) e S x
  | .no, P => exact P
theorem PostS.then {α β : Type} {rel : Wd → β → α → Prop} {q : R α} {f : α → Sto → RS} (e : EnvR K M W σ env) (P : PostS K M g E D W (q.then env f)) :
    Post K M g rel (wE E σ) W (fun b H1 => ∃ a s1 W1, Le W W1 ∧ StR K M W1 H1 g s1 ∧ rel W1 b a ∧ PostS K M g E D W1 (f a s1)) q := by
  cases q with
  | ok a s => exact fun W' H' b L S r => ⟨a, s, W', L, S, r, PostS.mono (show PostS K M g E D W (f a s) from P) L⟩
  | ex x s => exact fun W' H' c d L S r => P W' H' σ c d L (e.mono L) S r
  | no => exact P
/-- targets -/
def fEnv (W : Wd) (σ : L2.St) (env : Env) : Prop := EnvR K M W σ env
end
theorem PSs.imp {X : Cx} {st : List Stmt} {t t1 : TS} (h : PSs X st t) (i : ∀ D σ H, t1 D σ H → t D σ H) : PSs X st t1 := ⟨fun pins s σ H D I q => h.run pins s σ H D I (i _ _ _ q)⟩
theorem PS.imp {X : Cx} {st : Stmt} {t t1 : TS} (h : PS X st t) (i : ∀ D σ H, t1 D σ H → t D σ H) : PS X st t1 := ⟨fun pins s σ H D I q => h.run pins s σ H D I (i _ _ _ q)⟩
theorem PG.imp {X : Cx} {e : Expr} {t t1 : TG} (h : PG X e t) (i : ∀ x σ H Q, t1 x σ H Q → t x σ H Q) : PG X e t1 := ⟨fun pins s σ H v u Q I r q => h.run pins s σ H v u Q I r (i _ _ _ _ q)⟩
section
variable {X : Cx} {M : Nm} {g : Nat → Prop} {E : WX} {C : Ctx}
/-- the reading of a store -/
def TGa (K : PySem.W.Frag) (M : Nm) (g : Nat → Prop) (C : Ctx) (t : Tgt) (E : WX) : TG := fun x σ H k => ∃ W env s d, EnvR K M W σ env ∧ StR K M W H g s ∧ Rl K M W x d ∧
  Post K M g (fun W' (σ1 : L2.St) env1 => EnvR K M W' σ1 env1) (wE E σ) W k (asgT C t d env s)
theorem rlk_put {K : PySem.W.Frag} {W : Wd} {k : Ky} {v : V} {d : D} (rv : Rl K M W v d) {kvs : List (Key × V)} {es : List (GKey × D)} (r : RlK K M W kvs es) : RlK K M W (putK kvs k.k v) (kput es (.one k) d) := by
  have hk : ∀ j : Ky, decide (j.k = k.k) = decide (GKey.one j = GKey.one k) := fun j => decide_eq_decide.mpr ⟨fun h => by rw [Ky.k_inj h], fun h => by cases h; rfl⟩
  have h1 : ∀ {kvs : List (Key × V)} {es : List (GKey × D)}, RlK K M W kvs es → (kvs.any fun kv => decide (kv.1 = k.k)) = es.any fun p => decide (p.1 = GKey.one k) := by
    intro kvs es r
    induction kvs generalizing es with
    | nil => cases r; rfl
    | cons a l ih =>
      cases r with
      | cons a b => simp only [List.any_cons]; rw [hk, ih b]
  have h2 : ∀ {kvs : List (Key × V)} {es : List (GKey × D)}, RlK K M W kvs es → RlK K M W (kvs.map (fun kv => if kv.1 = k.k then (kv.1, v) else kv)) (es.map fun p => if p.1 = GKey.one k then (p.1, d) else p) := by
    intro kvs es r
    induction kvs generalizing es with
    | nil => cases r; exact .nil
    | cons a l ih =>
      cases r with
      | @cons j w e vs ds a b =>
        simp only [List.map_cons]
        by_cases q : j = k
        · subst q
          rw [if_pos rfl, if_pos rfl]
          exact .cons rv (ih b)
        · rw [if_neg (fun z => q (Ky.k_inj z)), if_neg (fun z => q (by cases z; rfl))]
          exact .cons a (ih b)
  have h3 : ∀ {kvs : List (Key × V)} {es : List (GKey × D)}, RlK K M W kvs es → RlK K M W (kvs ++ [(k.k, v)]) (es ++ [(.one k, d)]) := by
    intro kvs es r
    induction kvs generalizing es with
    | nil => cases r; exact .cons rv .nil
    | cons a l ih =>
      cases r with
      | cons a b => exact .cons a (ih b)
  unfold putK kput
  rw [h1 r]
  split
  · exact h2 r
  · exact h3 r
theorem rlt_put {K : PySem.W.Frag} {W : Wd} {k : List Ky} {v : V} {d : D} (rv : Rl K M W v d) {kvs : List (List Key × V)} {es : List (GKey × D)} (r : RlT K M W kvs es) : RlT K M W (putK kvs (k.map Ky.k) v) (kput es (.tp k) d) := by
  have hk : ∀ j : List Ky, decide (j.map Ky.k = k.map Ky.k) = decide (GKey.tp j = GKey.tp k) := fun j => decide_eq_decide.mpr ⟨fun h => by rw [Ky.map_inj h], fun h => by cases h; rfl⟩
  have h1 : ∀ {kvs : List (List Key × V)} {es : List (GKey × D)}, RlT K M W kvs es → (kvs.any fun kv => decide (kv.1 = k.map Ky.k)) = es.any fun p => decide (p.1 = GKey.tp k) := by
    intro kvs es r
    induction kvs generalizing es with
    | nil => cases r; rfl
    | cons a l ih =>
      cases r with
      | cons a b => simp only [List.any_cons]; rw [hk, ih b]
  have h2 : ∀ {kvs : List (List Key × V)} {es : List (GKey × D)}, RlT K M W kvs es → RlT K M W (kvs.map (fun kv => if kv.1 = k.map Ky.k then (kv.1, v) else kv)) (es.map fun p => if p.1 = GKey.tp k then (p.1, d) else p) := by
    intro kvs es r
    induction kvs generalizing es with
    | nil => cases r; exact .nil
    | cons a l ih =>
      cases r with
      | @cons j w e vs ds a b =>
        simp only [List.map_cons]
        by_cases q : j = k
        · subst q
          rw [if_pos rfl, if_pos rfl]
          exact .cons rv (ih b)
        · rw [if_neg (fun z => q (Ky.map_inj z)), if_neg (fun z => q (by cases z; rfl))]
          exact .cons a (ih b)
  have h3 : ∀ {kvs : List (List Key × V)} {es : List (GKey × D)}, RlT K M W kvs es → RlT K M W (kvs ++ [(k.map Ky.k, v)]) (es ++ [(.tp k, d)]) := by
    intro kvs es r
    induction kvs generalizing es with
    | nil => cases r; exact .cons rv .nil
    | cons a l ih =>
      cases r with
      | cons a b => exact .cons a (ih b)
  unfold putK kput
  rw [h1 r]
  split
  · exact h2 r
  · exact h3 r
theorem ixPut_eq {n : Nat} {i : Int} {j : Nat} (h : ixPut n i = some j) : ixN n i = some j := by
  unfold ixPut at h
  unfold ixN
  by_cases h0 : 0 ≤ i
  · rw [if_pos h0] at h ⊢
    split at h
    · cases h
      rw [if_pos (by omega)]
    · cases h
  · rw [if_neg h0] at h ⊢
    split at h
    · cases h
      rw [if_pos (by omega)]
    · cases h
def PostU (K : PySem.W.Frag) (M : Nm) (g : Nat → Prop) (E : WS) (W : Wd) (Q : Hp → Prop) (r : R Unit) : Prop := Post K M g (fun _ (_ : Unit) _ => True) E W (fun _ => Q) r
def rPut (K : PySem.W.Frag) (M : Nm) (g : Nat → Prop) : TSet := fun o i v H Q => ∃ W s d1 d2 d3 E, StR K M W H g s ∧ Rl K M W o d1 ∧ Rl K M W i d2 ∧ Rl K M W v d3 ∧ PostU K M g E W Q (putIx d1 d2 d3 s)
theorem set_put (hu : X.A.units + 1 < cLine) : PSet X (rPut X.K M g) := by
  intro pins s σ H o i v ov iv u Q I ro ri rv ⟨W, st, d1, d2, d3, E, S, r1, r2, r3, P⟩
  unfold putIx at P
  split at P
  · rename_i l
    cases r1
    split at P
    · rename_i ds e
      split at P
      · rename_i k
        cases r2
        split at P
        · rename_i j hj
          obtain ⟨vs, hv, rl⟩ := loc_lst S e
          have S2 := put_lst (ds' := ds.set j d3) (vs' := vs.set j v) S e hv (fun a b => RlL.set b j a) r3
          refine set_list pins s σ H _ _ _ ov iv u Q I ro ri rv ⟨_, vs, k, j, rfl, rfl, hv, ?_, P W _ () .refl S2 trivial⟩
          rw [rl.length]
          exact ixPut_eq hj
        · exact P.elim
      · exact P.elim
    · rename_i t kvs e
      split at P
      · rename_i key hk
        split at P
        · rename_i hc
          obtain ⟨ho, h1, ro', z⟩ : ∃ ho, H (W.bt l) = some ho ∧ RlO X.K M W ho (.dct t kvs) ∧ W.fz (W.bt l) = none := by
            cases S.ob l _ e with
            | live e1 r z => exact ⟨_, e1, r, z⟩
          have h0 : ∃ ho₀, H (W.bt l) = some ho₀ ∧ ∀ m, ObR X.K M (W.cut m) H (W.bt l) (.dct t kvs) → RlO X.K M (W.cut m) ho₀ (.dct t kvs) := ⟨ho, h1, fun m q => by
            cases q with
            | live e1 r1 z1 =>
              rw [h1] at e1
              cases e1
              exact r1⟩
          cases key with
          | one ky =>
            have ei : i = kV ky.k := by
              cases r2 with
              | int => cases hk; rfl
              | str => cases hk; rfl
              | tup _ _ => exfalso; revert hk; unfold gkOf; dsimp only; cases kysOf _ <;> intro z <;> cases z
              | _ => simp [gkOf, kyOf] at hk
            cases ro' with
            | @dk kv0 _ rk =>
              have S2 := S.put (o' := .dct false (kput kvs (.one ky) d3)) (d := d3) (ho' := .dK (putK kv0 ky.k v)) e z (.dk (rlk_put r3 rk)) (fun hl m => .inr fun ho hh hr => by
                rw [h1] at hh
                cases hh
                cases hr with
                | dk hr => exact .dk (rlk_put (r3.cut hl) hr)) h0
              refine set_dict hu pins s σ H _ _ _ ov iv u Q I ro ri rv ⟨_, _, rfl, .inl ⟨kv0, ky.k, h1, ei, ?_, rfl⟩, P W _ () .refl S2 trivial⟩
              rw [rk.length, ← lenLine_eq]
              exact hc.2
            | dt _ => cases hc.1
          | tp ks =>
            cases r2 with
            | @tup b vs0 ds0 hz rl =>
              have hk : (kysOf ds0).map GKey.tp = some (.tp ks) := hk
              cases hks : kysOf ds0 with
              | none => rw [hks] at hk; cases hk
              | some ks' =>
                rw [hks] at hk
                cases hk
                have e2 := kys_ok rl hks
                cases ro' with
                | @dt kv0 _ rk =>
                  have S2 := S.put (o' := .dct true (kput kvs (.tp ks) d3)) (d := d3) (ho' := .dT (putK kv0 (ks.map Ky.k) v)) e z (.dt (rlt_put r3 rk)) (fun hl m => .inr fun ho hh hr => by
                    rw [h1] at hh
                    cases hh
                    cases hr with
                    | dt hr => exact .dt (rlt_put (r3.cut hl) hr)) h0
                  refine set_dict hu pins s σ H _ _ _ ov iv u Q I ro ri rv ⟨_, _, rfl, .inr ⟨kv0, ks.map Ky.k, b, h1, rfl, ?_, ?_, rfl⟩, P W _ () .refl S2 trivial⟩
                  · rw [← e2]
                    exact rdx_tup (S.fz _ _ hz)
                  · rw [rk.length, ← lenLine_eq]
                    exact hc.2
                | dk _ => cases hc.1
            | int => simp [gkOf, kyOf] at hk
            | str => simp [gkOf, kyOf] at hk
            | _ => simp [gkOf, kyOf] at hk
        · exact P.elim
      · exact P.elim
    · exact P.elim
  · exact P.elim
/-! ### reading at a subscript, by values -/
theorem get_ix (hu : X.A.units + 1 < cLine) : PGet X (r2 X.K M g idxV) := by
  intro pins s σ H o i ov iv Q I ro ri ⟨W, st, d1, d2, E, S, r1, r2, P⟩
  obtain ⟨d, e, P2⟩ := Post.at P
  clear P
  unfold idx at e
  split at e
  · rename_i t kvs hk
    cases hg : gkOf d2 with
    | none => rw [hg] at e; cases e
    | some k =>
      rw [hg] at e
      have e : (if k.isT = t then kget kvs k else none) = some d := e
      split at e
      · rename_i ht
        obtain ⟨a, o', rfl, hD, ho⟩ := dget_ok r1 r2 S hk hg ht
        rw [e] at ho
        obtain ⟨v, rfl, rv⟩ := ho
        obtain rfl : ov = Value.ref a := ro
        exact d_getItem hu I hD ri fun w' s' I' rw' => ⟨v, H, I', rw', P2.ok S rv⟩
      · cases e
  · split at e
    · rename_i k
      cases r2
      split at e
      · rename_i ds hs
        obtain ⟨a, vs, rfl, hq, rl⟩ := seq_ok r1 S hs
        obtain ⟨v, h1, h2⟩ := atI_rl rl e
        have q := P2.ok S h2
        cases ro
        obtain ⟨t, rfl⟩ := ri
        obtain ⟨j, z1, z2, z3, z4, z5⟩ := atI_get h1
        have hn := line63
        rcases hq with hq | hq
        · obtain ⟨its, r, pl, hz⟩ := I.list hq
          obtain ⟨w, ew, rw'⟩ := r.get z2
          have hl := r.length
          have fin : EP X pins σ Q w s := ⟨v, H, I, rw', q⟩
          by_cases h0 : 0 ≤ k
          · have hj : k.toNat = j := by
              rw [seqIndex_of h0 z5] at z1
              exact Option.some.inj z1
            exact wpAny_getItem_list pl.isList h0 (by omega) (by rw [hj]; simpa using ew) fin
          · have hj : (k + (its.toArray.size : Int)).toNat = j := by
              rw [seqIndex_neg (by omega) z4] at z1
              rw [List.size_toArray, ← hl]
              exact Option.some.inj z1
            exact wpAny_getItem_list_neg pl.isList (by omega) (by rw [List.size_toArray] <;> omega) (by omega) (by rw [hj]; simpa using ew) fin
        · obtain ⟨its, r, pl, hz⟩ := I.tuple hq
          obtain ⟨w, ew, rw'⟩ := r.get z2
          have hl := r.length
          have fin : EP X pins σ Q w s := ⟨v, H, I, rw', q⟩
          exact getItem_tuple (j := j) pl (by omega) (by omega) (by rw [List.size_toArray, ← hl]; exact z1) (by simpa using ew) fin
      · cases r1 with
        | @str cs0 =>
          dsimp only at e
          split at e
          · rename_i hl0
            obtain ⟨c, hc, rfl⟩ := Option.map_eq_some_iff.mp e
            have q := P2.str S
            obtain ⟨t, rfl⟩ := ro
            obtain ⟨t', rfl⟩ := ri
            have e2 : (cOf cs0).cps.toList = cs0 := by simp [cOf]
            obtain ⟨j, h1, h2, h3, h4, h5⟩ := atI_get (ixAt_eq _ _ hc)
            have hl : cs0.length = (cOf cs0).length := (cOf_len _).symm
            rw [hl] at h1 h4 h5
            have hn := line63
            have hz : (cOf cs0).length ≤ sizeLine := by rw [cOf_len, ← lenLine_eq]; exact hl0
            exact getItem_str (c := c) (by
              have e1 : decide (k < -(2 ^ 63 : Int)) = false := decide_eq_false (by omega)
              have e2 : decide (k ≥ 2 ^ 63) = false := decide_eq_false (by omega)
              rw [e1, e2, Bool.or_false]) (by rw [h1]; rw [← e2] at h2; simpa using h2) ⟨.str ⟨#[c]⟩, H, I.tok _, ⟨_, rfl⟩, q⟩
          · cases e
        | _ => cases e
    · cases e
/-! ### in place -/
def aopOf : Operator → Option Bop
  | .Add => some .add
  | .Sub => some .sub
  | _ => none
theorem iop_sub : OpR X (inplaceOp .Sub) (rI0 fun i j => .int (i - j)) := opI0 fun _ _ _ _ _ _ _ q => isub_int q
theorem o_abin {o : Operator} {b : Bop} (h : aopOf o = some b) : OpR X (inplaceOp o) (r2 X.K M g (abin b)) := by
  cases o <;> first | (cases h; done) | skip
  · cases h
    refine opImp (iop_add.or iop_add_str) fun x y H Q ⟨W, s, d1, d2, E, S, r1, r2, P⟩ => ?_
    unfold abin at P
    split at P
    · cases r1; cases r2
      exact .inl ⟨_, _, rfl, rfl, P.int S⟩
    · exact absurd ‹Bop.add = Bop.sub› (by decide)
    · cases r1; cases r2
      split at P
      · rename_i h
        refine .inr ⟨_, _, rfl, rfl, ?_, ?_⟩
        · rw [cOf_len, cOf_len, ← lenLine_eq]; exact h
        · rw [cOf_app]; exact P.str S
      · exact P.elim
    · exact P.elim
  · cases h
    refine opImp iop_sub fun x y H Q ⟨W, s, d1, d2, E, S, r1, r2, P⟩ => ?_
    unfold abin at P
    split at P
    · exact absurd ‹Bop.sub = Bop.add› (by decide)
    · cases r1; cases r2
      exact ⟨_, _, rfl, rfl, P.int S⟩
    · exact absurd ‹Bop.sub = Bop.add› (by decide)
    · exact P.elim
/-! ### targets of assignments -/
theorem pga_nm {i : Nat} {x : Str} {wsc : Scope} {pos : Pos} (hN : X.N.Nodup) (hi : X.N[i]? = some x) (hl : Loc X.env.scope x ∧ (X.fn x = true ∨ X.env.scope.names.lookup x = some .local)) : PG X (.Name x pos) (TGa X.K M g C (.nm i) E) := by
  refine ⟨fun pins s σ H v u Q I r ⟨W, env, st, d, e, S, rd, P⟩ => (pg_name hN hi hl.1 hl.2).run pins s σ H v u Q I r ?_⟩
  exact P W H _ .refl S (e.set rd)
theorem asg_plain {o i : Expr} {pos : Pos} {env : PySem.Env} (hp : plainIx i = true) (v : Value) : assign (.Subscript o i pos) env v = (do
      let ov ← holding [v] (eval o env)
      let iv ← holding [v, ov] (eval i env)
      standAt pos
      holding [v, ov, iv] (setItem ov iv v)
      release [v, ov, iv] []) := by cases i <;> first | rfl | cases hp
theorem pga_ix {o i : Expr} {mo mi : ME} {pos : Pos} (hu : X.A.units + 1 < cLine) (hp : plainIx i = true) (ho : PE X o (TF X.K M g (evE C mo) E)) (hi : PE X i (TF X.K M g (evE C mi) E)) : PG X (.Subscript o i pos) (TGa X.K M g C (.ix mo mi) E) := by
  refine PG.imp (pg_sub ho hi (set_put (M := M) (g := g) hu) (asg_plain hp)) fun x σ H Q ⟨W, env, st, d, e, S, rd, P⟩ => ⟨W, env, st, e, S, ?_⟩
  have P : Post X.K M g (fun W' (σ1 : L2.St) env1 => EnvR X.K M W' σ1 env1) (wE E σ) W Q ((evE C mo env st).bind fun x s => (evE C mi env s).bind fun y s => (putIx x y d s).bind fun _ s => .ok env s) := P
  refine P.bind.imp fun v H1 ⟨d1, s1, W1, L1, S1, r1, P1⟩ => ⟨W1, env, s1, e.mono L1, S1, ?_⟩
  refine P1.bind.imp fun v2 H2 ⟨d2, s2, W2, L2, S2, r2, P2⟩ => ?_
  exact ⟨W2, s2, d1, d2, d, wE E σ, S2, r1.mono L2, r2, rd.mono (L1.trans L2), P2.bind.imp fun _ H3 ⟨_, s3, W3, L3, S3, _, P3⟩ => P3 W3 H3 σ .refl S3 (e.mono (L1.trans (L2.trans L3)))⟩
/-- names in a row -/
def chkNs (N : List Str) (sc wsc : Scope) : List Tgt → List Expr → Bool
  | [], [] => true
  | .nm i :: ts, .Name x _ :: es => decide (N[i]? = some x) && stoOk sc wsc x && chkNs N sc wsc ts es
  | _, _ => false
theorem pgs_ns {sc wsc : Scope} (hN : X.N.Nodup) (hsc : X.env.scope = sc) (hf : ∀ x, wsc.names.lookup x = some .cell → X.fn x = true) : ∀ (ts : List Tgt) (es : List Expr), chkNs X.N sc wsc ts es = true →
    PGs X es (fun xs σ H k => ∃ W env ds env1, EnvR X.K M W σ env ∧ RlL X.K M W xs ds ∧ bindNames ts ds env = some env1 ∧ ∀ σ1, EnvR X.K M W σ1 env1 → k σ1 H) ∧ (assignEach es X.env).length = ts.length ∧ (assignEach es X.env).findIdx? (·.1) = none
  | [], [], h => by
    refine ⟨⟨fun pins s σ H vs us Q I r ⟨W, env, ds, env1, e, rl, hb, k⟩ => pgs_nil.run pins s σ H vs us Q I r ?_⟩, rfl, rfl⟩
    cases ds with
    | nil => cases rl; cases hb; exact ⟨rfl, k σ e⟩
    | cons _ _ => cases hb
  | .nm i :: ts, .Name x p :: es, h => by
    simp only [chkNs, Bool.and_eq_true, decide_eq_true_eq] at h
    obtain ⟨⟨h1, h2⟩, h3⟩ := h
    obtain ⟨q1, q2, q3⟩ := pgs_ns hN hsc hf ts es h3
    subst hsc
    have q := stoOk_ok hf h2
    refine ⟨⟨fun pins s σ H vs us Q I r ⟨W, env, ds, env1, e, rl, hb, k⟩ => (pgs_cons (pg_name hN h1 q.1 q.2) q1).run pins s σ H vs us Q I r ?_⟩, congrArg Nat.succ q2, by show ((false, _) :: _).findIdx? _ = none; rw [List.findIdx?_cons]; simp [q3]⟩
    cases ds with
    | nil => cases hb
    | cons d ds =>
      cases rl with
      | cons rv rl => exact ⟨_, _, rfl, W, env.set i (some d), ds, env1, e.set rv, rl, hb, k⟩
  | [], _ :: _, h => by cases h
  | .nm _ :: _, [], h => by cases h
  | .nm _ :: _, .BoolOp _ _ _ :: _, h => by cases h
  | .nm _ :: _, .NamedExpr _ _ _ :: _, h => by cases h
  | .nm _ :: _, .BinOp _ _ _ _ :: _, h => by cases h
  | .nm _ :: _, .UnaryOp _ _ _ :: _, h => by cases h
  | .nm _ :: _, .Lambda _ _ _ _ :: _, h => by cases h
  | .nm _ :: _, .IfExp _ _ _ _ :: _, h => by cases h
  | .nm _ :: _, .Dict _ _ _ :: _, h => by cases h
  | .nm _ :: _, .Set _ _ _ :: _, h => by cases h
  | .nm _ :: _, .ListComp _ _ _ _ :: _, h => by cases h
  | .nm _ :: _, .SetComp _ _ _ _ :: _, h => by cases h
  | .nm _ :: _, .DictComp _ _ _ _ _ :: _, h => by cases h
  | .nm _ :: _, .GeneratorExp _ _ _ _ :: _, h => by cases h
  | .nm _ :: _, .Await _ _ :: _, h => by cases h
  | .nm _ :: _, .Yield _ _ :: _, h => by cases h
  | .nm _ :: _, .YieldFrom _ _ :: _, h => by cases h
  | .nm _ :: _, .Compare _ _ _ _ :: _, h => by cases h
  | .nm _ :: _, .Call _ _ _ _ :: _, h => by cases h
  | .nm _ :: _, .FormattedValue _ _ _ _ :: _, h => by cases h
  | .nm _ :: _, .JoinedStr _ _ :: _, h => by cases h
  | .nm _ :: _, .Constant _ _ _ :: _, h => by cases h
  | .nm _ :: _, .Attribute _ _ _ :: _, h => by cases h
  | .nm _ :: _, .Subscript _ _ _ :: _, h => by cases h
  | .nm _ :: _, .Starred _ _ :: _, h => by cases h
  | .nm _ :: _, .List _ _ :: _, h => by cases h
  | .nm _ :: _, .Tuple _ _ _ :: _, h => by cases h
  | .nm _ :: _, .Slice _ _ _ _ :: _, h => by cases h
  | .tp _ :: _, _, h => by simp [chkNs] at h
  | .star _ _ _ :: _, _, h => by simp [chkNs] at h
  | .fl _ _ _ :: _, _, h => by simp [chkNs] at h
  | .ix _ _ :: _, _, h => by simp [chkNs] at h
theorem pga_tp {sc wsc : Scope} {ts : List Tgt} {es : List Expr} {kk : Nat} {pos : Pos} (hc : X.calm = true) (hN : X.N.Nodup) (hsc : X.env.scope = sc) (hf : ∀ x, wsc.names.lookup x = some .cell → X.fn x = true) (h : chkNs X.N sc wsc ts es = true) :
    PG X (.Tuple es kk pos) (TGa X.K M g C (.tp ts) E) := by
  obtain ⟨q1, q2, q3⟩ := pgs_ns (M := M) hN hsc hf ts es h
  have bl : ∀ {ts : List Tgt} {ds : List D} {env env1 : Env}, bindNames ts ds env = some env1 → ts.length = ds.length := by
    intro ts
    induction ts with
    | nil => intro ds env env1 h; cases ds with | nil => rfl | cons _ _ => cases h
    | cons t ts ih =>
      intro ds env env1 h
      cases ds with
      | nil => cases t <;> cases h
      | cons d ds => cases t <;> first | (cases h; done) | exact congrArg Nat.succ (ih h)
  refine PG.imp (pg_tup hc q1 q2 q3) fun x σ H Q ⟨W, env, st, d, e, S, rd, P⟩ => ?_
  have P : Post X.K M g (fun W' (σ1 : L2.St) env1 => EnvR X.K M W' σ1 env1) (wE E σ) W Q (match seqOf d st with | some ds => if tupD d = true then at? (bindNames ts ds env) st else .no | none => .no) := P
  split at P
  · rename_i ds hs
    split at P
    · rename_i ht
      obtain ⟨env1, hb, P2⟩ := Post.at P
      obtain ⟨a, vs, ex, rl, _, hst⟩ := sq_stay rd S hs
      rcases hst with ⟨z, _⟩ | ⟨_, hst⟩
      · rw [ht] at z; cases z
      · exact ⟨a, vs, ex, hst W H st (fun _ _ h => h) S, by rw [rl.length, ← bl hb], W, env, ds, env1, e, rl, hb, fun σ1 e1 => P2 W H σ1 .refl S e1⟩
    · exact P.elim
  · exact P.elim
theorem rlf_put {K : PySem.W.Frag} {W : Wd} {f : String} {v : V} {d : D} (rv : Rl K M W v d) : ∀ {vs : List (Str × V)} {fs : List (String × D)}, RlF K M W vs fs → RlF K M W (putF (sOf f) v vs) (fput fs f d)
  | _, _, .nil => .cons rv .nil
  | _, _, .cons (f := g0) r rs => by
    unfold putF fput
    by_cases e : g0 = f
    · subst e
      rw [if_pos rfl, if_pos rfl]
      exact .cons rv rs
    · rw [if_neg e, if_neg (fun z => e (sOf_inj z))]
      exact .cons r (rlf_put rv rs)
theorem rlf_len {K : PySem.W.Frag} {W : Wd} : ∀ {vs : List (Str × V)} {fs : List (String × D)}, RlF K M W vs fs → vs.length = fs.length
  | _, _, .nil => rfl
  | _, _, .cons _ b => congrArg Nat.succ (rlf_len b)
theorem rlo_ins {K : PySem.W.Frag} {W : Wd} {ho : HO} {c : String} {es : List (String × D)} (r : RlO K M W ho (.ins c es)) : ∃ dx vs, ho = .ins (M.cls c) dx vs ∧ RlF K M W vs es := by
  cases r with
  | ins r => exact ⟨_, _, rfl, r⟩
/-- a field is stored -/
theorem put_fld {W : Wd} {H : Hp} {s : Sto} {o y : V} {od d : D} {cs : List String} {f : String} {s1 : Sto} (S : StR X.K M W H g s) (ro : Rl X.K M W o od) (rd : Rl X.K M W y d) (h : putFldC cs od f d s = .ok () s1) :
    ∃ a c dx fs, o = .ref a ∧ H a = some (.ins (M.cls c) dx fs) ∧ c ∈ cs ∧ fs.length < 900 ∧ StR X.K M W (upd H a (.ins (M.cls c) dx (putF (sOf f) y fs))) g s1 := by
  unfold putFldC at h
  cases hi : insOf od s with
  | none => rw [hi] at h; cases h
  | some p =>
    rw [hi] at h
    dsimp only at h
    split at h
    · rename_i hc
      unfold putFld at h
      split at h
      · rename_i l
        cases ro with
        | loc hl =>
        split at h
        · rename_i c fs he
          split at h
          · rename_i hlt
            cases h
            have hp : p = (c, fs) := by
              unfold insOf view at hi
              dsimp only at hi
              rw [he] at hi
              exact (Option.some.inj hi).symm
            subst hp
            cases S.ob l _ he with
            | live e1 r z =>
              obtain ⟨dx, vs, rfl, rf⟩ := rlo_ins r
              · refine ⟨W.bt l, c, dx, vs, rfl, e1, hc, by rw [rlf_len rf]; exact hlt, ?_⟩
                refine S.put he z (.ins (rlf_put rd rf)) (fun hl m => .inr fun ho h1 h2 => ?_) ⟨_, e1, fun m q => ?_⟩
                · rw [e1] at h1
                  cases h1
                  obtain ⟨dx2, vs2, q1, h2⟩ := rlo_ins h2
                  cases q1
                  exact .ins (rlf_put (rd.cut hl) h2)
                · cases q with
                  | live e2 r1 z1 =>
                    rw [e1] at e2
                    cases e2
                    exact r1
          · cases h
        · cases h
      · cases h
    · cases h
end
end Fn

set_option Elab.async false
set_option linter.all false
set_option maxRecDepth 100000
set_option maxHeartbeats 4000000
namespace Fn
open PySem L2 PySem.Spec PyProof.Rows
def isComp : Expr → Bool
  | .ListComp _ _ _ _ => true
  | .SetComp _ _ _ _ => true
  | .DictComp _ _ _ _ _ => true
  | _ => false
theorem nosw {e : Expr} (h : isComp e = false) (t : Option Expr) (l : Nat) (env : PySem.Env) : swapsWith e t l env = pure false := by
  cases e <;> first | rfl | cases h
def parOk (tg e : Expr) : Bool := match tg with
  | .Tuple _ _ _ => !isTupE e
  | .List _ _ => false
  | _ => true
theorem nopar {tg e : Expr} (h : parOk tg e = true) (env : PySem.Env) : swappedStores [tg] e env = pure none := by
  cases tg <;> first | rfl | (cases h; done) | skip
  cases e <;> first | rfl | cases h
section
variable {X : Cx} {M : Nm} {g : Nat → Prop} {E : WX} {C : Ctx} {pos : Pos}
theorem ss_asg {tg e : Expr} {t : Tgt} {m : ME} (he : PE X e (TF X.K M g (evE C m) E)) (hg : PG X tg (TGa X.K M g C t E)) (hc : isComp e = false) (hp : parOk tg e = true) (hs : isStar tg = false) :
    PS X (.Assign [tg] e pos) (TS' X.K M g (evS C (.asg [t] m)) E) := by
  refine PS.imp (ps_asg he hg (nosw hc _ _ _) (nopar hp _) (by rw [asgE_cons hs]; rfl)) fun D σ H ⟨W, env, s, en, S, P⟩ => ⟨W, env, s, en, S, ?_⟩
  have P : PostS X.K M g E D W ((evE C m env s).then env fun d s => ((asgT C t d env s).bind fun env s => .ok env s).then env fun env s => .ok .next env s) := P
  refine (PostS.then en P).imp fun v H1 ⟨d, s1, W1, L1, S1, r1, P1⟩ => ⟨W1, env, s1, d, en.mono L1, S1, r1, ?_⟩
  have e1 : (asgT C t d env s1).bind (fun env s => .ok env s) = asgT C t d env s1 := by cases asgT C t d env s1 <;> rfl
  rw [e1] at P1
  exact (PostS.then (en.mono L1) P1).imp fun σ1 H2 ⟨env1, s2, W2, L2, S2, r2, P2⟩ => P2 W2 H2 σ1 .refl r2 S2
theorem ss_exp {e : Expr} {m : ME} (he : PE X e (TF X.K M g (evE C m) E)) (hc : isComp e = false) : PS X (.Expr e pos) (TS' X.K M g (evS C (.exp m)) E) := by
  refine PS.imp (ps_expr he (nosw hc _ _ _)) fun D σ H ⟨W, env, s, en, S, P⟩ => ⟨W, env, s, en, S, ?_⟩
  have P : PostS X.K M g E D W ((evE C m env s).then env fun _ s => .ok .next env s) := P
  exact (PostS.then en P).imp fun v H1 ⟨d, s1, W1, L1, S1, r1, P1⟩ => P1 W1 H1 σ .refl (en.mono L1) S1
theorem ss_ret {e : Expr} {m : ME} (he : PE X e (TF X.K M g (evE C m) E)) : PS X (.Return (some e) pos) (TS' X.K M g (evS C (.ret (some m))) E) := by
  refine PS.imp (ps_ret he) fun D σ H ⟨W, env, s, en, S, P⟩ => ⟨W, env, s, en, S, ?_⟩
  have P : PostS X.K M g E D W ((evE C m env s).then env fun d s => .ok (.ret d) env s) := P
  exact (PostS.then en P).imp fun v H1 ⟨d, s1, W1, L1, S1, r1, P1⟩ => P1 W1 H1 v .refl S1 r1
theorem ss_retN : PS X (.Return none pos) (TS' X.K M g (evS C (.ret none)) E) := PS.imp ps_retN fun D σ H ⟨W, env, s, en, S, P⟩ => P W H .non .refl S .non
theorem ss_pass : PS X (.Pass pos) (TS' X.K M g (evS C .pass) E) := PS.imp ps_pass fun D σ H ⟨W, env, s, en, S, P⟩ => P W H σ .refl en S
theorem ss_nil : PSs X [] (TS' X.K M g (evSs C []) E) := PSs.imp pss_nil fun D σ H ⟨W, env, s, en, S, P⟩ => P W H σ .refl en S
theorem ss_cons {st : Stmt} {sts : List Stmt} {m : MS} {ms : List MS} (h1 : PS X st (TS' X.K M g (evS C m) E)) (h2 : PSs X sts (TS' X.K M g (evSs C ms) E)) : PSs X (st :: sts) (TS' X.K M g (evSs C (m :: ms)) E) := by
  refine PSs.imp (pss_cons h1 h2) fun D σ H ⟨W, env, s, en, S, P⟩ => ⟨W, env, s, en, S, ?_⟩
  have P : PostS X.K M g E D W (match evS C m env s with | .ok .next env s => evSs C ms env s | r => r) := P
  cases h : evS C m env s with
  | no => rw [h] at P; exact P
  | ex x e s => rw [h] at P; exact P
  | ok f e s1 =>
    rw [h] at P
    cases f with
    | ret d => exact P
    | next => exact fun W' H' σ' L en' S' => ⟨W', e, s1, en', S', PostS.mono P L⟩
theorem ss_if {c : Expr} {a b : List Stmt} {mc : ME} {ma mb : List MS} (hc : PT X c (TT' X.K M g (tst (evE C mc)) E)) (ha : PSs X a (TS' X.K M g (evSs C ma) E)) (hb : PSs X b (TS' X.K M g (evSs C mb) E)) : PS X (.If c a b pos) (TS' X.K M g (evS C (.ifs mc ma mb)) E) := by
  refine PS.imp (ps_if hc ha hb) fun D σ H ⟨W, env, s, en, S, P⟩ => ⟨W, env, s, en, S, ?_⟩
  have P : PostS X.K M g E D W ((evE C mc env s).then env fun d s => match truth d s with
    | some true => evSs C ma env s
    | some false => evSs C mb env s
    | none => .no) := P
  unfold tst
  cases h1 : evE C mc env s with
  | no => rw [h1] at P; exact P
  | ex x s1 => rw [h1] at P; exact fun W' H' c d L S' r => P W' H' σ c d L (en.mono L) S' r
  | ok d s1 =>
    rw [h1] at P
    simp only [R.then_ok, R.bind_ok] at P ⊢
    cases ht : truth d s1 with
    | none => rw [ht] at P; exact P
    | some k =>
      rw [ht] at P
      intro W' H' c L S' (r : c = k)
      subst r
      cases c with
      | true => exact ⟨W', env, s1, en.mono L, S', PostS.mono P L⟩
      | false => exact ⟨W', env, s1, en.mono L, S', PostS.mono P L⟩
theorem ss_while {c : Expr} {b : List Stmt} {mc : ME} {mb : List MS} (hp : PassesOwn (model X.prog X.w) X.A X.env X.xe) (hc : PT X c (TT' X.K M g (tst (evE C mc)) E)) (hb : PSs X b (TS' X.K M g (evSs C mb) E)) : PS X (.While c b [] pos) (TS' X.K M g (evS C (.whl mc mb)) E) := by
  refine PS.imp (ps_while hp hc hb) fun D σ H ⟨W, env, s, en, S, P⟩ => ?_
  have P : PostS X.K M g E D W (whileL (tst (evE C mc)) (fun env s => evSs C mb env s) C.fuel env s) := P
  refine ⟨fun m σ H => ∃ W env s, EnvR X.K M W σ env ∧ StR X.K M W H g s ∧ PostS X.K M g E D W (whileL (tst (evE C mc)) (fun env s => evSs C mb env s) m env s), ⟨_, W, env, s, en, S, P⟩, ?_⟩
  rintro m σ H ⟨W, env, s, en, S, P⟩
  cases m with
  | zero => exact P.elim
  | succ m =>
    have P : PostS X.K M g E D W (match tst (evE C mc) env s with
      | .ok true s => (match evSs C mb env s with | .ok .next env s => whileL (tst (evE C mc)) (fun env s => evSs C mb env s) m env s | r => r)
      | .ok false s => .ok .next env s
      | .ex x s => .ex x env s
      | .no => .no) := P
    refine ⟨W, env, s, en, S, ?_⟩
    cases ht : tst (evE C mc) env s with
    | no => rw [ht] at P; exact P
    | ex x s1 => rw [ht] at P; exact fun W' H' c d L S' r => P W' H' σ c d L (en.mono L) S' r
    | ok k s1 =>
      rw [ht] at P
      intro W1 H1 c L1 S1 (r : c = k)
      subst r
      cases c with
      | false => exact P W1 H1 σ L1 (en.mono L1) S1
      | true =>
        rw [if_pos rfl]
        refine ⟨fun σ' H' => ∃ W env s, EnvR X.K M W σ' env ∧ StR X.K M W H' g s ∧ PostS X.K M g E D W (whileL (tst (evE C mc)) (fun env s => evSs C mb env s) m env s), fun σ' H' h => ⟨m, Nat.lt_succ_self _, h⟩, W1, env, s1, en.mono L1, S1, ?_⟩
        have P := PostS.mono P L1
        dsimp only at P
        cases hb : evSs C mb env s1 with
        | no => rw [hb] at P; exact P
        | ex x e s2 => rw [hb] at P; exact P
        | ok f e s2 =>
          rw [hb] at P
          cases f with
          | ret d => exact P
          | next => exact fun W' H' σ' L en' S' => ⟨W', e, s2, en', S', PostS.mono P L⟩
theorem ss_augN {i : Nat} {x : Str} {e : Expr} {op : Operator} {b : Bop} {m : ME} {pos' : Pos} (hN : X.N.Nodup) (hi : X.N[i]? = some x) (hl : Loc X.env.scope x ∧ (X.fn x = true ∨ X.env.scope.names.lookup x = some .local)) (ho : aopOf op = some b) (he : PE X e (TF X.K M g (evE C m) E)) :
    PS X (.AugAssign (.Name x pos') op e pos) (TS' X.K M g (evS C (.aug (.nm i) b m)) E) := by
  refine PS.imp (ps_aug (ti := r2 X.K M g (abin b)) hN hi hl.1 he (o_abin ho) hl.2) fun D σ H ⟨W, env, s, en, S, P⟩ => ?_
  have P : PostS X.K M g E D W ((match env[i]? with
    | some (some x) => (evE C m env s).bind fun y s => (abin b x y s).bind fun z s => .ok (env.set i (some z)) s
    | _ => .no).then env fun env s => .ok .next env s) := P
  split at P
  · rename_i d hd
    obtain ⟨v, h1, h2⟩ := en.2 i d hd
    refine ⟨v, h1, W, env, s, en, S, ?_⟩
    cases hq : evE C m env s with
    | no => rw [hq] at P; exact P
    | ex x s1 => rw [hq] at P; exact fun W' H' c dd L S' r => P W' H' σ c dd L (en.mono L) S' r
    | ok y s1 =>
      rw [hq] at P
      intro W1 H1 u L1 S1 ru
      refine ⟨W1, s1, d, y, wE E σ, S1, h2.mono L1, ru, ?_⟩
      have P := PostS.mono P L1
      have P : PostS X.K M g E D W1 (((abin b d y s1).bind fun z s => .ok (env.set i (some z)) s).then env fun env s => .ok .next env s) := P
      cases hz : abin b d y s1 with
      | no => rw [hz] at P; exact P
      | ex x s2 => rw [hz] at P; exact fun W' H' c dd L S' r => P W' H' σ c dd L (en.mono (L1.trans L)) S' r
      | ok z s2 =>
        rw [hz] at P
        exact fun W' H' w L S' rw' => P W' H' _ L ((en.mono (L1.trans L)).set rw') S'
  · exact P.elim
theorem aug_plain {i : Expr} (hp : plainIx i = true) (ov iv new : Value) : augStore i ov iv new = (do holding [new, ov, iv] (setItem ov iv new); release [new, ov, iv] []; pure .next) := by cases i <;> first | rfl | cases hp
theorem ss_augI {o i e : Expr} {op : Operator} {b : Bop} {mo mi m : ME} {tpos : Pos} (hu : X.A.units + 1 < cLine) (hpl : plainIx i = true) (ho : aopOf op = some b) (h1 : PE X o (TF X.K M g (evE C mo) E)) (h2 : PE X i (TF X.K M g (evE C mi) E)) (h3 : PE X e (TF X.K M g (evE C m) E)) :
    PS X (.AugAssign (.Subscript o i tpos) op e pos) (TS' X.K M g (evS C (.aug (.ix mo mi) b m)) E) := by
  refine PS.imp (ps_augS (tip := r2 X.K M g (abin b)) h1 h2 (get_ix (M := M) (g := g) hu) h3 (o_abin ho) (set_put (M := M) (g := g) hu) (aug_plain hpl)) fun D σ H ⟨W, env, s, en, S, P⟩ => ⟨W, env, s, en, S, ?_⟩
  have P : PostS X.K M g E D W (((evE C mo env s).bind fun x s => (evE C mi env s).bind fun k s => match idx x k s with
    | some old => (evE C m env s).bind fun y s => (abin b old y s).bind fun z s => (putIx x k z s).bind fun _ s => .ok env s
    | none => .no).then env fun env s => .ok .next env s) := P
  have tb : ∀ {α β : Type} (r : R α) (f : α → Sto → R β) (k : β → Sto → RS), (r.bind f).then env k = r.then env fun a s => (f a s).then env k := fun r f k => by cases r <;> rfl
  rw [tb] at P
  refine (PostS.then en P).imp fun x H1 ⟨d1, s1, W1, L1, S1, r1, P1⟩ => ⟨W1, env, s1, en.mono L1, S1, ?_⟩
  rw [tb] at P1
  refine (PostS.then (en.mono L1) P1).imp fun y H2 ⟨d2, s2, W2, L2, S2, r2, P2⟩ => ?_
  have en2 := en.mono (L1.trans L2)
  cases hx : idx d1 d2 s2 with
  | none => rw [hx] at P2; exact P2.elim
  | some old =>
    rw [hx] at P2
    refine ⟨W2, s2, d1, d2, wE E σ, S2, r1.mono L2, r2, ?_⟩
    show Post X.K M g _ _ _ _ (at? (idx d1 d2 s2) s2)
    rw [hx]
    intro W3 H3 v L3 S3 r3
    have en3 := en2.mono L3
    have P3 := PostS.mono P2 L3
    refine ⟨W3, env, s2, en3, S3, ?_⟩
    have P3 : PostS X.K M g E D W3 (((evE C m env s2).bind fun y s => (abin b old y s).bind fun z s => (putIx d1 d2 z s).bind fun _ s => .ok env s).then env fun env s => .ok .next env s) := P3
    rw [tb] at P3
    refine (PostS.then en3 P3).imp fun w H4 ⟨d4, s4, W4, L4, S4, r4, P4⟩ => ?_
    have en4 := en3.mono L4
    refine ⟨W4, s4, old, d4, wE E σ, S4, r3.mono L4, r4, ?_⟩
    rw [tb] at P4
    refine (PostS.then en4 P4).imp fun z H5 ⟨d5, s5, W5, L5, S5, r5, P5⟩ => ?_
    have en5 := en4.mono L5
    have L25 := L3.trans (L4.trans L5)
    refine ⟨W5, s5, d1, d2, d5, wE E σ, S5, r1.mono (L2.trans L25), r2.mono L25, r5, ?_⟩
    rw [tb] at P5
    exact (PostS.then (rel := fun _ (_ : Unit) _ => True) en5 P5).imp fun _ H6 ⟨_, s6, W6, L6, S6, _, P6⟩ => P6 W6 H6 σ .refl (en5.mono L6) S6
theorem putFldC_un {cs : List String} {o : D} {f : String} {d : D} {s : Sto} : (∃ s1, putFldC cs o f d s = .ok () s1) ∨ putFldC cs o f d s = .no := by
  cases h : putFldC cs o f d s with
  | ok a s1 => cases a; exact .inl ⟨s1, rfl⟩
  | no => exact .inr rfl
  | ex x s1 =>
    exfalso
    unfold putFldC putFld at h
    repeat (first | (split at h) | cases h)
/-- o.f = e -/
theorem ss_asgF {cs : List String} {f : String} {o e : Expr} {mo m : ME} {p' : Pos} (hcs : ∀ c ∈ cs, Cls X.K (M.cls c) ∧ NoAttr X.K (M.cls c) (sOf f)) (ho : PE X o (TF X.K M g (evE C mo) E)) (he : PE X e (TF X.K M g (evE C m) E)) (hc : isComp e = false) :
    PS X (.Assign [.Attribute o (sOf f) p'] e pos) (TS' X.K M g (evS C (.asg [.fl cs mo f] m)) E) := by
  refine PS.imp (ps_fld ho he (nosw hc _ _ _)) fun D σ H ⟨W, env, s, en, S, P⟩ => ⟨W, env, s, en, S, ?_⟩
  have P : PostS X.K M g E D W ((evE C m env s).then env fun d s => (((evE C mo env s).bind fun x s => (putFldC cs x f d s).bind fun _ s => .ok env s).bind fun env s => .ok env s).then env fun env s => .ok .next env s) := P
  refine (PostS.then en P).imp fun y H1 ⟨d, s1, W1, L1, S1, r1, P1⟩ => ⟨W1, env, s1, en.mono L1, S1, ?_⟩
  have e1 : ((((evE C mo env s1).bind fun x s => (putFldC cs x f d s).bind fun _ s => .ok env s).bind fun env s => R.ok env s).then env fun env s => RS.ok .next env s) = (evE C mo env s1).then env fun x s => (putFldC cs x f d s).then env fun _ s => .ok .next env s := by
    cases evE C mo env s1 with
    | no => rfl
    | ex x s2 => rfl
    | ok x s2 =>
      simp only [R.bind_ok, R.then_ok]
      rcases putFldC_un (cs := cs) (o := x) (f := f) (d := d) (s := s2) with ⟨s3, h⟩ | h <;> rw [h] <;> rfl
  rw [e1] at P1
  refine (PostS.then (en.mono L1) P1).imp fun x H2 ⟨xd, s2, W2, L2, S2, r2, P2⟩ => ?_
  rcases putFldC_un (cs := cs) (o := xd) (f := f) (d := d) (s := s2) with ⟨s3, h⟩ | h
  · rw [h] at P2
    obtain ⟨a, c, dx, fs, ex, hA, hcc, hlt, S3⟩ := put_fld S2 r2 (r1.mono L2) h
    exact ⟨a, M.cls c, dx, fs, ex, hA, (hcs c hcc).1, (hcs c hcc).2, by omega, P2 W2 _ σ .refl (en.mono (L1.trans L2)) S3⟩
  · rw [h] at P2
    exact P2.elim
end
end Fn

set_option Elab.async false
set_option linter.all false
set_option maxRecDepth 100000
set_option maxHeartbeats 4000000
namespace Fn
open PySem L2 PySem.Spec PyProof.Rows
section
variable {X : Cx} {M : Nm} {g : Nat → Prop} {E : WX} {C : Ctx} {pos : Pos}
def bodyF (C : Ctx) (t : Tgt) (b : List MS) : D → Env → Sto → RS := fun d env s => match bindT 3 t d s env with
  | some env => evSs C b env s
  | none => .no
theorem ss_for {tg iter : Expr} {b : List Stmt} {t : Tgt} {mi : MI} {mb : List MS} (hp : PassesOwn (model X.prog X.w) X.A X.env X.xe) (hc : X.calm = true) (hi : PI X tg iter (TI' X M g (evI C mi) E)) (hg : PG X tg (TGn X.K M g 3 t)) (hb : PSs X b (TS' X.K M g (evSs C mb) E)) (hs : isSet iter = false) (hq : mi.sq = false) :
    PS X (.For tg iter b [] pos) (TS' X.K M g (evS C (.for t mi mb)) E) := by
  refine PS.imp (ps_unl (ps_for hp hc hi hg hb (nofold hs _))) fun D σ H ⟨W, env, s, en, S, P⟩ => ⟨W, env, s, en, S, ?_⟩
  have P : PostS X.K M g E D W ((evI C mi env s).then env fun p s => ((forL (bodyF C t mb) p.1 env (lockAll p.2 s).2).nox.unlock (lockAll p.2 s).1)) := by
    have P : PostS X.K M g E D W ((evI C mi env s).then env fun p s => (((forL (bodyF C t mb) p.1 env (lockAll p.2 s).2).noxI mi.sq).unlock (lockAll p.2 s).1)) := P
    rw [hq] at P
    exact P
  cases hfi : evI C mi env s with
  | no => rw [hfi] at P; exact P
  | ex x s1 => rw [hfi] at P; exact fun W' H' c dd L S' r => P W' H' σ c dd L (en.mono L) S' r
  | ok p s1 =>
    rw [hfi] at P
    have P : PostS X.K M g E D W ((forL (bodyF C t mb) p.1 env (lockAll p.2 s1).2).nox.unlock (lockAll p.2 s1).1) := P
    intro W1 H1 J L1 ⟨W2, sm, S2, it, un⟩
    have P1 := PostS.mono P L1
    clear P
    obtain ⟨ds, ls⟩ := p
    dsimp only at P1 it un S2 sm
    generalize hs2 : (lockAll ls s1).2 = s2 at P1 S2
    generalize hll : (lockAll ls s1).1 = ll at P1 un
    refine ⟨fun i mm σ H => mm = ds.length - i ∧ i ≤ ds.length ∧ ∃ W3 env s3, Le W2 W3 ∧ EnvR X.K M W3 σ env ∧ StR X.K M W3 H g s3 ∧ PostS X.K M g E D W1 ((forL (bodyF C t mb) (ds.drop i) env s3).nox.unlock ll), ⟨_, rfl, Nat.zero_le _, W2, env, s2, .refl, sm.en (en.mono L1), S2, by rw [List.drop_zero]; exact P1⟩, ?_⟩
    rintro i mm σ H3 ⟨rfl, hile, W3, env, s3, L3, en3, S3, P3⟩
    by_cases hlt : i < ds.length
    · right
      obtain ⟨go, yl⟩ := (it W3 H3 s3 i L3.w S3).2 ds[i] (List.getElem?_eq_getElem hlt)
      refine ⟨go, fun σ H => i + 1 ≤ ds.length ∧ ∃ W3 env s3, Le W2 W3 ∧ EnvR X.K M W3 σ env ∧ StR X.K M W3 H g s3 ∧ PostS X.K M g E D W1 ((forL (bodyF C t mb) (ds.drop (i + 1)) env s3).nox.unlock ll), fun σ' H' hN' => ⟨ds.length - (i + 1), by omega, rfl, hN'⟩, fun x H' hy => ?_⟩
      obtain ⟨W4, L4, S4, rx⟩ := yl x H' hy
      rw [List.drop_eq_getElem_cons hlt] at P3
      have P3 : PostS X.K M g E D W1 ((match bodyF C t mb ds[i] env s3 with
        | .ok .next env s => forL (bodyF C t mb) (ds.drop (i + 1)) env s
        | r => r).nox.unlock ll) := P3
      cases hbt : bindT 3 t ds[i] s3 env with
      | none =>
        have e0 : bodyF C t mb ds[i] env s3 = .no := by
          show (match bindT 3 t ds[i] s3 env with | some env => evSs C mb env s3 | none => RS.no) = _
          rw [hbt]
        rw [e0] at P3
        exact P3.elim
      | some env1 =>
        have e0 : bodyF C t mb ds[i] env s3 = evSs C mb env1 s3 := by
          show (match bindT 3 t ds[i] s3 env with | some env => evSs C mb env s3 | none => RS.no) = _
          rw [hbt]
        rw [e0] at P3
        refine ⟨W4, env, s3, _, env1, en3.mono L4, S4, rx, hbt, fun σ1 en5 _ => ⟨W4, env1, s3, en5, S4, ?_⟩⟩
        cases hq : evSs C mb env1 s3 with
        | no => rw [hq] at P3; exact P3.elim
        | ex x e s => rw [hq] at P3; exact P3.elim
        | ok f e s5 =>
          rw [hq] at P3
          cases f with
          | next => exact fun W5 H5 σ5 L5 en6 S5 => ⟨hlt, W5, e, s5, L3.trans (L4.trans L5), en6, S5, P3⟩
          | ret d =>
            intro W5 H5 v L5 S5 rv
            obtain ⟨W6, H6, sm6, lc6, ul, S6⟩ := un W5 H5 s5 (L3.trans (L4.trans L5)).w S5
            exact ⟨H6, ul, P3 W6 H6 v (Le.loop sm (L3.trans (L4.trans L5)) sm6 lc6) S6 (sm6.rl rv)⟩
    · left
      have hi' : i = ds.length := by omega
      subst hi'
      refine ⟨(it W3 H3 s3 _ L3.w S3).1 (Nat.le_refl _), ?_⟩
      obtain ⟨W4, H4, sm4, lc4, ul, S4⟩ := un W3 H3 s3 L3.w S3
      rw [List.drop_length] at P3
      exact ⟨H4, ul, P3 W4 H4 σ (Le.loop sm L3 sm4 lc4) (sm4.en en3) S4⟩
theorem ss_forS {tg iter : Expr} {b : List Stmt} {t : Tgt} {mi : MI} {mb : List MS} (hp : PassesOwn (model X.prog X.w) X.A X.env X.xe) (hc : X.calm = true) (hi : PI X tg iter (TIS' X M g (evI C mi) E)) (hg : PG X tg (TGn X.K M g 3 t)) (hb : PSs X b (TS' X.K M g (evSs C mb) E)) (hs : isSet iter = false) (hq : mi.sq = true) :
    PS X (.For tg iter b [] pos) (TS' X.K M g (evS C (.for t mi mb)) E) := by
  refine PS.imp (ps_for hp hc hi hg hb (nofold hs _)) fun D σ H ⟨W, env, s, en, S, P⟩ => ⟨W, env, s, en, S, ?_⟩
  have P : PostS X.K M g E D W ((evI C mi env s).then env fun p s => ((forL (bodyF C t mb) p.1 env (lockAll p.2 s).2).unlock (lockAll p.2 s).1)) := by
    have P : PostS X.K M g E D W ((evI C mi env s).then env fun p s => (((forL (bodyF C t mb) p.1 env (lockAll p.2 s).2).noxI mi.sq).unlock (lockAll p.2 s).1)) := P
    rw [hq] at P
    exact P
  cases hfi : evI C mi env s with
  | no => rw [hfi] at P; exact P
  | ex x s1 => rw [hfi] at P; exact fun W' H' c dd L S' r => P W' H' σ c dd L (en.mono L) S' r
  | ok p s1 =>
    rw [hfi] at P
    have P : PostS X.K M g E D W ((forL (bodyF C t mb) p.1 env (lockAll p.2 s1).2).unlock (lockAll p.2 s1).1) := P
    intro W1 H1 J L1 ⟨W2, sm, S2, it, un⟩
    have P1 := PostS.mono P L1
    clear P
    obtain ⟨ds, ls⟩ := p
    dsimp only at P1 it un S2 sm
    generalize hs2 : (lockAll ls s1).2 = s2 at P1 S2
    generalize hll : (lockAll ls s1).1 = ll at P1 un
    refine ⟨fun i mm σ H => mm = ds.length - i ∧ i ≤ ds.length ∧ ∃ W3 env s3, Le W2 W3 ∧ EnvR X.K M W3 σ env ∧ StR X.K M W3 H g s3 ∧ PostS X.K M g E D W1 ((forL (bodyF C t mb) (ds.drop i) env s3).unlock ll), ⟨_, rfl, Nat.zero_le _, W2, env, s2, .refl, sm.en (en.mono L1), S2, by rw [List.drop_zero]; exact P1⟩, ?_⟩
    rintro i mm σ H3 ⟨rfl, hile, W3, env, s3, L3, en3, S3, P3⟩
    by_cases hlt : i < ds.length
    · right
      obtain ⟨go, yl⟩ := (it W3 H3 s3 i L3.w S3).2 ds[i] (List.getElem?_eq_getElem hlt)
      refine ⟨go, fun σ H => i + 1 ≤ ds.length ∧ ∃ W3 env s3, Le W2 W3 ∧ EnvR X.K M W3 σ env ∧ StR X.K M W3 H g s3 ∧ PostS X.K M g E D W1 ((forL (bodyF C t mb) (ds.drop (i + 1)) env s3).unlock ll), fun σ' H' hN' => ⟨ds.length - (i + 1), by omega, rfl, hN'⟩, fun x H' hy => ?_⟩
      obtain ⟨W4, L4, S4, rx⟩ := yl x H' hy
      rw [List.drop_eq_getElem_cons hlt] at P3
      have P3 : PostS X.K M g E D W1 ((match bodyF C t mb ds[i] env s3 with
        | .ok .next env s => forL (bodyF C t mb) (ds.drop (i + 1)) env s
        | r => r).unlock ll) := P3
      cases hbt : bindT 3 t ds[i] s3 env with
      | none =>
        have e0 : bodyF C t mb ds[i] env s3 = .no := by
          show (match bindT 3 t ds[i] s3 env with | some env => evSs C mb env s3 | none => RS.no) = _
          rw [hbt]
        rw [e0] at P3
        exact P3.elim
      | some env1 =>
        have e0 : bodyF C t mb ds[i] env s3 = evSs C mb env1 s3 := by
          show (match bindT 3 t ds[i] s3 env with | some env => evSs C mb env s3 | none => RS.no) = _
          rw [hbt]
        rw [e0] at P3
        refine ⟨W4, env, s3, _, env1, en3.mono L4, S4, rx, hbt, fun σ1 en5 _ => ⟨W4, env1, s3, en5, S4, ?_⟩⟩
        cases hq : evSs C mb env1 s3 with
        | no => rw [hq] at P3; exact P3.elim
        | ex x e s5 =>
          rw [hq] at P3
          intro W5 H5 σ5 cls dd L5 en6 S5 xr
          obtain ⟨W6, sm6, lc6, S6⟩ := un W5 H5 s5 (L3.trans (L4.trans L5)).w S5
          exact P3 W6 H5 σ5 cls dd (Le.loop sm (L3.trans (L4.trans L5)) sm6 lc6) (sm6.en en6) S6 ⟨xr.cls, xr.kn, fun f d hf => by
            obtain ⟨dx, fs, v, q1, q2, q3, q4⟩ := xr.fs f d hf
            exact ⟨dx, fs, v, q1, q2, q3, sm6.rl q4⟩⟩
        | ok f e s5 =>
          rw [hq] at P3
          cases f with
          | next => exact fun W5 H5 σ5 L5 en6 S5 => ⟨hlt, W5, e, s5, L3.trans (L4.trans L5), en6, S5, P3⟩
          | ret d =>
            intro W5 H5 v L5 S5 rv
            obtain ⟨W6, sm6, lc6, S6⟩ := un W5 H5 s5 (L3.trans (L4.trans L5)).w S5
            exact P3 W6 H5 v (Le.loop sm (L3.trans (L4.trans L5)) sm6 lc6) S6 (sm6.rl rv)
    · left
      have hi' : i = ds.length := by omega
      subst hi'
      refine ⟨(it W3 H3 s3 _ L3.w S3).1 (Nat.le_refl _), ?_⟩
      obtain ⟨W4, sm4, lc4, S4⟩ := un W3 H3 s3 L3.w S3
      rw [List.drop_length] at P3
      exact P3 W4 H3 σ (Le.loop sm L3 sm4 lc4) (sm4.en en3) S4
/-- a, b = x, y: local names on one line -/
def parC (a b : Expr) : Bool := !isStar a && !isStar b && !([a, b].all (foldedForSure 8)) && !([a, b].all (constantsAlone 8))
theorem par_sw {x y : Str} {a b : Expr} {px py pt pt2 : Pos} {kt k2 : Nat} {env : PySem.Env} (hk : env.scope.kind = .function) (hx : env.scope.names.lookup x = some .local) (hy : env.scope.names.lookup y = some .local) (hl : px.line = py.line) (hxy : x ≠ y) (h : parC a b = true) :
    swappedStores [.Tuple [.Name x px, .Name y py] kt pt] (.Tuple [a, b] k2 pt2) env = pure (some [x, y]) := by
  unfold parC at h
  simp only [Bool.and_eq_true, Bool.not_eq_true'] at h
  obtain ⟨⟨⟨h1, h2⟩, h3⟩, h4⟩ := h
  have kx : env.kindOf x = some .local := hx
  have ky : env.kindOf y = some .local := hy
  have hb : env.blockKind = .function := by unfold Env.blockKind; rw [hk]; rfl
  have hs : ([a, b].any fun | .Starred .. => true | _ => false) = false := by
    cases a <;> first | (cases h1; done) | (cases b <;> first | rfl | cases h2)
  have hd : [x, y].eraseDups.length = 2 := by
    have e : (y == x) = false := beq_eq_false_iff_ne.mpr (Ne.symm hxy)
    simp [List.eraseDups_cons, e]
  have hl2 : (py.line == px.line) = true := by rw [hl]; simp
  have hl1 : (px.line == px.line) = true := by simp
  have hloc : (some NameKind.local == some NameKind.local) = true := rfl
  have hn : [Expr.Name x px, Expr.Name y py].filterMap (fun
      | .Name id pos => if env.kindOf id == some .local && pos.line == px.line then some id else none
      | _ => none) = [x, y] := by
    simp only [List.filterMap_cons, List.filterMap_nil, kx, ky, hloc, hl1, hl2, Bool.and_self, if_true]
  unfold swappedStores
  show (if (!(2 == 2 || 2 == 3) || 2 != 2 || env.blockKind != .function) = true then pure none else if ([a, b].any fun | .Starred .. => true | _ => false) = true then pure none else
    (let names := [Expr.Name x px, Expr.Name y py].filterMap (fun
      | .Name id pos => if env.kindOf id == some .local && pos.line == px.line then some id else none
      | _ => none)
     if (names.length != 2 || names.eraseDups.length != names.length) = true then pure none else
     if [a, b].all (foldedForSure 8) = true then pure none else
     if [a, b].all (constantsAlone 8) = true then unsupported "assign.tuple-of-constant-expressions:order-of-the-stores" else pure (some names) : Sem (Option (List Str)))) = _
  rw [hb, if_neg (by decide), hs, if_neg (by decide)]
  rw [hn]
  dsimp only
  rw [hd, if_neg (by simp), h3, if_neg (by decide), h4, if_neg (by decide)]
end
end Fn

set_option Elab.async false
set_option linter.all false
set_option maxRecDepth 100000
set_option maxHeartbeats 2000000
namespace Fn
open PySem L2 PySem.Spec PyProof.Rows
/-! Fn19b: raise. -/
section
variable {X : Cx} {M : Nm} {g : Nat → Prop} {E : WX} {C : Ctx} {pos : Pos}
theorem look_no {f : Str} : ∀ {l : List (Str × V)}, (∀ p ∈ l, f ≠ p.1) → l.lookup f = none
  | [], _ => rfl
  | p :: l, h => by
    have e : (f == p.1) = false := beq_eq_false_iff_ne.mpr (h p List.mem_cons_self)
    simp only [List.lookup, e]
    exact look_no fun q hq => h q (List.mem_cons_of_mem _ hq)
theorem look_app {f : Str} {m : List (Str × V)} : ∀ {l : List (Str × V)}, (l ++ m).lookup f = match l.lookup f with | some v => some v | none => m.lookup f
  | [] => rfl
  | p :: l => by
    show (match f == p.1 with | true => some p.2 | false => (l ++ m).lookup f) = match (match f == p.1 with | true => some p.2 | false => l.lookup f) with | some v => some v | none => m.lookup f
    cases f == p.1 with
    | true => rfl
    | false => exact look_app
theorem look_zip {fs : List String} {ys : List V} {ds : List D} {W : Wd} : ∀ {f : String} {d : D}, fs.Nodup → ys.length = fs.length → RlL X.K M W ys ds → fget (fs.zip ds) f = some d → ∃ v, ((fs.map sOf).zip ys).reverse.lookup (sOf f) = some v ∧ Rl X.K M W v d := by
  intro f d nd hl r h
  induction fs generalizing ys ds with
  | nil => cases h
  | cons f0 fs ih =>
    cases r with
    | nil => simp at hl
    | @cons y d0 ys ds r rs =>
      have h : (if f0 = f then some d0 else fget (fs.zip ds) f) = some d := h
      simp only [List.map_cons, List.zip_cons_cons, List.reverse_cons]
      by_cases e : f0 = f
      · rw [if_pos e] at h
        cases h
        subst e
        refine ⟨y, ?_, r⟩
        have hnot : f0 ∉ fs := (List.nodup_cons.mp nd).1
        rw [look_app]
        have : ((fs.map sOf).zip ys).reverse.lookup (sOf f0) = none := by
          refine look_no fun p hp => ?_
          have hp := List.mem_reverse.mp hp
          have := (List.of_mem_zip hp).1
          obtain ⟨f1, q1, q2⟩ := List.mem_map.mp this
          intro z
          rw [← q2] at z
          exact hnot (by rw [sOf_inj z]; exact q1)
        rw [this]
        simp [List.lookup]
      · rw [if_neg e] at h
        obtain ⟨v, h1, h2⟩ := ih (List.nodup_cons.mp nd).2 (by simpa using hl) rs h
        refine ⟨v, ?_, h2⟩
        rw [look_app, h1]
/-- raise C(..) -/
theorem ss_raise {c : String} {fs : List String} {es : List Expr} {ms : List ME} {p p2 : Pos} {k : Nat} (ok : ExcOk X.prog X.w X.K X.mg X.base M k c fs) (hex : c ∈ M.ex) (hc : X.calm = true) (hr : Room (k + 1) X.A) (tk : Takes X E) (hg : Gl X (sOf c)) (hm : X.mg (sOf c) = some (.ref (M.cls c)))
    (hdb : (sOf c == ("__debug__" : Str)) = false) (hst : (es.all fun e => !isStar e) = true) (hne : es ≠ []) (hsm : ms.length ≤ 1000) (nd : fs.Nodup) (ha : PA X es (TA' X.K M g (evEs C ms) E)) :
    PS X (.Raise (some (.Call (.Name (sOf c) p) es [] p2)) none pos) (TS' X.K M g (evS C (.raise c fs ms)) E) := by
  cases es with
  | nil => exact absurd rfl hne
  | cons e es =>
  simp only [List.all_cons, Bool.and_eq_true, Bool.not_eq_true'] at hst
  cases ok with
  | bare h hk hs ht =>
    refine PS.imp (ps_raise hc tk (pmk_ownA PySem.F.excBase_ValueError h hm hk (raises_own hs ht) hg ha hdb (star_cons hst.1) (star_back hst.2))) fun D σ H ⟨W, env, s, en, S, P⟩ => ⟨W, env, s, en, S, ?_⟩
    have P : PostS X.K M g E D W ((evEs C ms env s).then env fun ds s => if ([] : List String).length = ds.length ∨ ([] : List String) = [] then .ex ⟨c, ([] : List String).zip ds⟩ env s else .no) := P
    cases h1 : evEs C ms env s with
    | no => rw [h1] at P; exact P
    | ex x s1 => rw [h1] at P; exact fun W' H' cls dd L S' r => P W' H' σ cls dd L (en.mono L) S' r
    | ok ds s1 =>
      rw [h1] at P
      intro W' H' vs L S' r
      have P : PostS X.K M g E D W (if ([] : List String).length = ds.length ∨ ([] : List String) = [] then .ex ⟨c, ([] : List String).zip ds⟩ env s1 else .no) := P
      rw [if_pos (.inr rfl)] at P
      refine ⟨?_, P W' H' σ _ none L (en.mono L) S' ⟨rfl, hex, fun f d hf => (by cases hf)⟩⟩
      rw [r.length, evEs_len ms env s ds s1 h1]
      exact Nat.le_trans hsm (by decide)
  | @full _ fI fd hne2 T hi ht F hb hn =>
    refine PS.imp (ps_raise hc tk (pmk_oex (dvs := []) (ds := []) T hi ht F hr hb .nil (passes_call tk fun _ _ _ _ z => z.elim) hg hm ha hdb (star_cons hst.1) (star_back hst.2))) fun D σ H ⟨W, env, s, en, S, P⟩ => ⟨W, env, s, en, S, ?_⟩
    have P : PostS X.K M g E D W ((evEs C ms env s).then env fun ds s => if fs.length = ds.length ∨ fs = [] then .ex ⟨c, fs.zip ds⟩ env s else .no) := P
    cases h1 : evEs C ms env s with
    | no => rw [h1] at P; exact P
    | ex x s1 => rw [h1] at P; exact fun W' H' cls dd L S' r => P W' H' σ cls dd L (en.mono L) S' r
    | ok ds s1 =>
      rw [h1] at P
      intro W' H' vs L S' r
      have P : PostS X.K M g E D W (if fs.length = ds.length ∨ fs = [] then .ex ⟨c, fs.zip ds⟩ env s1 else .no) := P
      split at P
      · rename_i hl
        have hl := hl.resolve_right hne2
        have hvl : vs.length = fs.length := by rw [r.length, hl]
        refine ⟨by rw [r.length, evEs_len ms env s ds s1 h1]; exact hsm, fun a han => ⟨a, M.cls c, vs, by rw [List.append_nil], by simpa using hvl, T, fun f hf => ?_, upd_same, fun dx H2 hd hne3 h2a h2d h2o => ⟨rfl, dx, _, h2a, h2d, ?_, ?_⟩⟩⟩
        · obtain ⟨f0, q1, rfl⟩ := List.mem_map.mp hf
          exact hn f0 q1
        · rw [upd_ne hne3] at hd; exact hd
        · have hd1 : H' dx = none := by rw [upd_ne hne3] at hd; exact hd
          have eH : upd (del H2 a) dx (.xd ((fs.map sOf).zip vs).reverse) = upd H' dx (.xd ((fs.map sOf).zip vs).reverse) := by
            funext b
            by_cases q1 : b = dx
            · rw [q1, upd_same, upd_same]
            · rw [upd_ne q1, upd_ne q1]
              by_cases q2 : b = a
              · rw [q2, del_same, han]
              · rw [del_ne q2, h2o b q2 q1, upd_ne q2]
          rw [eH]
          exact P W' _ σ _ (some dx) L (en.mono L) (S'.junk hd1) ⟨rfl, hex, fun f d hf => by
            obtain ⟨v, q1, q2⟩ := look_zip nd hvl r hf
            exact ⟨dx, _, v, rfl, upd_same, q1, q2⟩⟩
      · exact P.elim
end
end Fn

set_option Elab.async false
set_option linter.all false
set_option maxRecDepth 100000
set_option maxHeartbeats 4000000
namespace Fn
open PySem L2 PySem.Spec PyProof.Rows
def chkTg (T : Tx) (sc : Scope) : Tgt → Expr → Bool
  | .nm i, tg => match tg with
    | .Name x _ => decide (T.N[i]? = some x) && stoOk sc sc x
    | _ => false
  | .tp ts, tg => match tg with
    | .Tuple es _ _ => chkNs T.N sc sc ts es
    | _ => false
  | .ix mo mi, tg => match tg with
    | .Subscript o i _ => plainIx i && chkE T mo sc sc o && chkE T mi sc sc i
    | _ => false
  | _, _ => false
/-- name = [..] on the name's line -/
def chkLc (T : Tx) (sc : Scope) (t : Tgt) (m : ME) (tg e : Expr) : Bool := match t, m, tg, e with
  | .nm i, .lc mm own tt it ifs (.elt r), .Name y py, .ListComp elt [⟨t2, iter, cifs, 0⟩] scope cpos =>
    decide (T.N[i]? = some y) && (match sc.names.lookup y with | some .local => true | _ => false) && decide (sc.kind = .function) && (py.line == cpos.line) && !(scope.names.any fun (n, k) => n == y && (k == .local || k == .cell)) && chkE T (.lc mm own tt it ifs (.elt r)) sc sc e
  | _, _, _, _ => false
/-- o.f = e -/
def chkFl (T : Tx) (sc : Scope) (t : Tgt) (m : ME) (tg e : Expr) : Bool := match t, tg with
  | .fl cs mo f, .Attribute o x _ => decide (x = sOf f) && cs.all (fun c => T.fld c f) && !isComp e && chkE T mo sc sc o && chkE T m sc sc e
  | _, _ => false
/-- raise C(..) -/
def chkRs (T : Tx) (sc : Scope) (c : String) (fs : List String) (ms : List ME) (e : Expr) : Bool := match e with
  | .Call (.Name x _) es [] _ => decide (x = sOf c) && T.exc c fs && glB sc x && !es.isEmpty && decide (ms.length ≤ 1000) && chkEs T ms sc sc es
  | _ => false
def chkPar (T : Tx) (sc : Scope) (ts : List Tgt) (ms : List ME) (tg e : Expr) : Bool := match ts, tg, e with
  | [.nm i, .nm j], .Tuple [.Name x px, .Name y py] _ _, .Tuple [a, b] _ _ =>
    decide (T.N[i]? = some x) && decide (T.N[j]? = some y) && decide (i ≠ j) && decide (x ≠ y) && (match sc.names.lookup x with | some .local => true | _ => false) && (match sc.names.lookup y with | some .local => true | _ => false) && decide (px.line = py.line) && parC a b && chkEs T ms sc sc [a, b]
  | _, _, _ => false
mutual
def chkS (T : Tx) (sc : Scope) : MS → Stmt → Bool
  | .asg [t] m, st => match st with
    | .Assign [tg] e _ => chkLc T sc t m tg e || chkFl T sc t m tg e || (!isComp e && parOk tg e && !isStar tg && chkE T m sc sc e && chkTg T sc t tg)
    | _ => false
  | .mul ts ms, st => match st with
    | .Assign [tg] e _ => chkPar T sc ts ms tg e
    | _ => false
  | .aug t b m, st => match st with
    | .AugAssign tg op e _ => decide (aopOf op = some b) && chkE T m sc sc e && (match t, tg with
      | .nm i, .Name x _ => decide (T.N[i]? = some x) && stoOk sc sc x
      | .ix mo mi, .Subscript o i _ => plainIx i && chkE T mo sc sc o && chkE T mi sc sc i
      | _, _ => false)
    | _ => false
  | .exp m, st => match st with
    | .Expr e _ => !isComp e && chkE T m sc sc e
    | _ => false
  | .ret none, st => match st with
    | .Return none _ => true
    | _ => false
  | .ret (some m), st => match st with
    | .Return (some e) _ => chkE T m sc sc e
    | _ => false
  | .ifs c a b, st => match st with
    | .If t x y _ => chkE T c sc sc t && chkSs T sc a x && chkSs T sc b y
    | _ => false
  | .whl c b, st => match st with
    | .While t x [] _ => chkE T c sc sc t && chkSs T sc b x
    | _ => false
  | .for t it b, st => match st with
    | .For tg iter x [] _ => chkT T.N sc sc 3 t tg && !isSet iter && chkI T it sc sc tg iter && chkSs T sc b x
    | _ => false
  | .pass, st => match st with
    | .Pass _ => true
    | _ => false
  | .raise c fs ms, st => match st with
    | .Raise (some e) none _ => chkRs T sc c fs ms e
    | _ => false
  | .nev, _ => true
  | _, _ => false
def chkSs (T : Tx) (sc : Scope) : List MS → List Stmt → Bool
  | [], sts => match sts with
    | [] => true
    | _ => false
  | m :: ms, sts => match sts with
    | st :: sts => chkS T sc m st && chkSs T sc ms sts
    | _ => false
end
section
variable {T : Tx} {C : Ctx} {M : Nm} {g : Nat → Prop} {k : Nat}
def SndS (T : Tx) (C : Ctx) (M : Nm) (g : Nat → Prop) (k : Nat) (m : MS) : Prop := ∀ (sc : Scope) (E : WX) (X : Cx) (st : Stmt), SX T C M k sc sc E X → PassesOwn (model X.prog X.w) X.A X.env X.xe → sc.kind = .function → chkS T sc m st = true → PS X st (TS' X.K M g (evS C m) E)
def SndSs (T : Tx) (C : Ctx) (M : Nm) (g : Nat → Prop) (k : Nat) (ms : List MS) : Prop := ∀ (sc : Scope) (E : WX) (X : Cx) (sts : List Stmt), SX T C M k sc sc E X → PassesOwn (model X.prog X.w) X.A X.env X.xe → sc.kind = .function → chkSs T sc ms sts = true → PSs X sts (TS' X.K M g (evSs C ms) E)
theorem chkTg_ok {sc : Scope} {E : WX} {X : Cx} (hX : SX T C M k sc sc E X) {t : Tgt} {tg : Expr} (h : chkTg T sc t tg = true) : PG X tg (TGa X.K M g C t E) := by
  cases t with
  | nm i =>
    simp only [chkTg] at h
    split at h
    · simp only [Bool.and_eq_true, decide_eq_true_eq] at h
      exact pga_nm (wsc := sc) hX.nd (by rw [hX.eN]; exact h.1) (stoOk_ok hX.fn (by rw [hX.scope]; exact h.2))
    · cases h
  | tp ts =>
    simp only [chkTg] at h
    split at h
    · exact pga_tp hX.calm hX.nd hX.scope hX.fn (by rw [hX.eN]; exact h)
    · cases h
  | ix mo mi =>
    simp only [chkTg] at h
    split at h
    · simp only [Bool.and_eq_true] at h
      exact pga_ix (by have := hX.un; omega) h.1.1 (sndE mo _ _ _ _ _ hX h.1.2).1 (sndE mi _ _ _ _ _ hX h.2).1
    · cases h
  | _ => simp [chkTg] at h
theorem chkFl_ok {sc : Scope} {E : WX} {X : Cx} (hX : SX T C M k sc sc E X) {t : Tgt} {m : ME} {tg e : Expr} {pos : Pos} (h : chkFl T sc t m tg e = true) : PS X (.Assign [tg] e pos) (TS' X.K M g (evS C (.asg [t] m)) E) := by
  unfold chkFl at h
  split at h
  · simp only [Bool.and_eq_true, decide_eq_true_eq, Bool.not_eq_true', List.all_eq_true] at h
    obtain ⟨⟨⟨⟨rfl, h2⟩, h3⟩, h4⟩, h5⟩ := h
    exact ss_asgF (fun c hc => hX.fld c _ (h2 c hc)) (sndE _ _ _ _ _ _ hX h4).1 (sndE _ _ _ _ _ _ hX h5).1 h3
  · cases h
theorem chkRs_ok {sc : Scope} {E : WX} {X : Cx} (hX : SX T C M k sc sc E X) {c : String} {fs : List String} {ms : List ME} {e : Expr} {pos : Pos} (h : chkRs T sc c fs ms e = true) : PS X (.Raise (some e) none pos) (TS' X.K M g (evS C (.raise c fs ms)) E) := by
  unfold chkRs at h
  split at h
  · simp only [Bool.and_eq_true, decide_eq_true_eq, Bool.not_eq_true'] at h
    obtain ⟨⟨⟨⟨⟨rfl, h2⟩, h3⟩, h4⟩, h5⟩, h6⟩ := h
    obtain ⟨e1, e2, e3, e4⟩ := hX.exc _ _ h2
    have q := sndEs (g := g) ms sc sc E X _ hX h6
    exact ss_raise e4 e2 hX.calm hX.room hX.tk (hX.gl h3).1 e1 (hX.gl h3).2 q.2.1 (by intro z; rw [z] at h4; cases h4) h5 e3 q.1
  · cases h
/-- loops that exceptions may leave -/
theorem sndIS : ∀ m : MI, m.sq = true → ∀ (sc wsc : Scope) (E : WX) (X : Cx) (tg e : Expr), SX T C M k sc wsc E X → chkI T m sc wsc tg e = true → PI X tg e (TIS' X M g (evI C m) E)
  | .itl a, _ => fun sc wsc E X tg e hX h => by
    simp only [chkI] at h
    exact pi_itl (sndE a sc wsc E X _ hX h).1
  | .enum a, _ => fun sc wsc E X tg e hX h => by
    simp only [chkI] at h
    split at h
    · simp only [Bool.and_eq_true, decide_eq_true_eq, Bool.not_eq_true'] at h
      obtain ⟨⟨⟨⟨h1, h2⟩, h3⟩, h4⟩, h5⟩ := h
      subst h1
      obtain ⟨es, kk, p, rfl⟩ := tupE h4
      exact pi_enS (hX.gl h2).1 (hX.blt "enumerate" (by decide)) h3 (sndE a sc wsc E X _ hX h5).1
    · cases h
  | .it _, z => by cases z
  | .rng _, z => by cases z
  | .rng2 _ _, z => by cases z
  | .zip _ _, z => by cases z
  | .zip3 _ _ _, z => by cases z
  | .items _, z => by cases z
  | .vals _, z => by cases z
theorem loc_of {sc : Scope} {y : Str} (h : (match sc.names.lookup y with | some .local => true | _ => false) = true) : sc.names.lookup y = some .local := by
  split at h
  · assumption
  · cases h
theorem chkLc_ok {sc : Scope} {E : WX} {X : Cx} (hX : SX T C M k sc sc E X) (hk : sc.kind = .function) {t : Tgt} {m : ME} {tg e : Expr} {pos : Pos} (h : chkLc T sc t m tg e = true) : PS X (.Assign [tg] e pos) (TS' X.K M g (evS C (.asg [t] m)) E) := by
  unfold chkLc at h
  split at h
  · rename_i i mm own tt it ifs r y py elt t2 iter cifs scope cpos
    simp only [Bool.and_eq_true, decide_eq_true_eq, Bool.not_eq_true'] at h
    obtain ⟨⟨⟨⟨⟨h1, h2⟩, h3⟩, h4⟩, h5⟩, h6⟩ := h
    simp only [chkE, Bool.and_eq_true, Bool.not_eq_true', List.all_eq_true, decide_eq_true_eq] at h6
    obtain ⟨⟨⟨⟨⟨⟨c1, c2⟩, c3⟩, c4⟩, c5⟩, c6⟩, c7⟩ := h6
    have qi := sndI (g := g) it sc sc E X t2 iter hX c5
    have ok := blkOk_by c1
    rw [← hX.eN, ← hX.scope] at ok
    have hl : X.env.scope.names.lookup y = some .local := by rw [hX.scope]; exact loc_of h2
    have q := s_setLc (m := mm) (i := i) (y := y) (py := py) (spos := pos) (pos := cpos) hX.calm hX.nd (by rw [hX.eN]; exact h1) hl (sw_true (by rw [hX.scope]; exact hk) hl h4 h5) qi ok (by rw [own_eq]; exact c2) (fun s H D cl fp => chkT_ok (M := M) (g := g) (X := X.blk s H scope (compEnvC scope cl D X.env) fp) (wsc := scope) hX.calm hX.nd (fun x q => by show (scope.names.lookup x == some NameKind.cell) = true; rw [q]; rfl) 3 tt t2 (by
        show chkT X.N (relS scope X.env.scope) scope 3 tt t2 = true
        rw [hX.eN, hX.scope]; exact c3))
      (fun s H D cl fp => sndTs ifs _ _ _ _ cifs (hX.blk scope s H cl D fp) c6) (fun s H D cl fp => (sndE r _ _ _ _ elt (hX.blk scope s H cl D fp) c7).1) (nofold c4 X.env)
    rw [own_eq] at q
    refine PS.imp q fun D σ H ⟨W, env, s, en, S, P⟩ => ⟨W, env, s, en, S, ?_⟩
    have P : PostS X.K M g E D W ((fLc mm own tt (evI C it) (evTs C ifs) (evE C r) env s).then env fun d s => ((asgT C (.nm i) d env s).bind fun env s => .ok env s).then env fun env s => .ok .next env s) := P
    refine (PostS.then en P).imp fun v H1 ⟨d, s1, W1, L1, S1, r1, P1⟩ => ?_
    exact P1 W1 H1 _ .refl ((en.mono L1).set r1) S1
  · cases h
theorem chkPar_ok {sc : Scope} {E : WX} {X : Cx} (hX : SX T C M k sc sc E X) (hk : sc.kind = .function) {ts : List Tgt} {ms : List ME} {tg e : Expr} {pos : Pos} (h : chkPar T sc ts ms tg e = true) : PS X (.Assign [tg] e pos) (TS' X.K M g (evS C (.mul ts ms)) E) := by
  unfold chkPar at h
  split at h
  · rename_i i j x px y py kt pt a b k2 pt2
    simp only [Bool.and_eq_true, decide_eq_true_eq] at h
    obtain ⟨⟨⟨⟨⟨⟨⟨⟨h1, h2⟩, h3⟩, h4⟩, h5⟩, h6⟩, h7⟩, h8⟩, h9⟩ := h
    have hx : X.env.scope.names.lookup x = some .local := by rw [hX.scope]; exact loc_of h5
    have hy : X.env.scope.names.lookup y = some .local := by rw [hX.scope]; exact loc_of h6
    have qs := sndEs (g := g) ms sc sc E X _ hX h9
    refine PS.imp (ps_par hX.calm hX.nd (by rw [hX.eN]; exact h1) (by rw [hX.eN]; exact h2) h3 hx hy qs.1 (par_sw (by rw [hX.scope]; exact hk) hx hy h7 h4 h8) (nosw (e := .Tuple [a, b] k2 pt2) rfl (some (.Tuple [.Name x px, .Name y py] kt pt)) pos.line X.env)) fun D σ H ⟨W, env, s, en, S, P⟩ => ⟨W, env, s, en, S, ?_⟩
    have P : PostS X.K M g E D W ((evEs C ms env s).then env fun ds s => (at? (bindNames [.nm i, .nm j] ds env) s).then env fun env s => .ok .next env s) := P
    refine (PostS.then en P).imp fun vs H1 ⟨ds, s1, W1, L1, S1, r1, P1⟩ => ?_
    match ds, r1, P1 with
    | [d1, d2], r1, P1 =>
      obtain ⟨v, u, rfl, rv, ru⟩ := two_rl r1
      exact ⟨v, u, rfl, P1 W1 H1 _ .refl (((en.mono L1).set rv).set ru) S1⟩
    | [], r1, P1 => exact P1.elim
    | [_], r1, P1 => exact P1.elim
    | _ :: _ :: _ :: _, r1, P1 => exact P1.elim
  · cases h
mutual
theorem sndS : ∀ m : MS, SndS T C M g k m
  | .asg [t] m => fun sc E X st hX hp hk h => by
    simp only [chkS] at h
    split at h
    · simp only [Bool.or_eq_true, Bool.and_eq_true, Bool.not_eq_true'] at h
      rcases h with (h | h) | ⟨⟨⟨⟨h1, h2⟩, h3⟩, h4⟩, h5⟩
      · exact chkLc_ok hX hk h
      · exact chkFl_ok hX h
      · exact ss_asg (sndE m _ _ _ _ _ hX h4).1 (chkTg_ok hX h5) h1 h2 h3
    · cases h
  | .asg [] _ => fun sc E X st hX hp hk h => by simp only [chkS] at h; cases h
  | .asg (_ :: _ :: _) _ => fun sc E X st hX hp hk h => by simp only [chkS] at h; cases h
  | .mul ts ms => fun sc E X st hX hp hk h => by
    simp only [chkS] at h
    split at h
    · exact chkPar_ok hX hk h
    · cases h
  | .aug t b m => fun sc E X st hX hp hk h => by
    simp only [chkS] at h
    split at h
    · simp only [Bool.and_eq_true, decide_eq_true_eq] at h
      obtain ⟨⟨h1, h2⟩, h3⟩ := h
      have qe := (sndE (g := g) m _ _ _ _ _ hX h2).1
      split at h3
      · simp only [Bool.and_eq_true, decide_eq_true_eq] at h3
        exact ss_augN hX.nd (by rw [hX.eN]; exact h3.1) (stoOk_ok hX.fn (by rw [hX.scope]; exact h3.2)) h1 qe
      · simp only [Bool.and_eq_true] at h3
        exact ss_augI (by have := hX.un; omega) h3.1.1 h1 (sndE _ _ _ _ _ _ hX h3.1.2).1 (sndE _ _ _ _ _ _ hX h3.2).1 qe
      · cases h3
    · cases h
  | .exp m => fun sc E X st hX hp hk h => by
    simp only [chkS] at h
    split at h
    · simp only [Bool.and_eq_true, Bool.not_eq_true'] at h
      exact ss_exp (sndE m _ _ _ _ _ hX h.2).1 h.1
    · cases h
  | .ret none => fun sc E X st hX hp hk h => by
    simp only [chkS] at h
    split at h
    · exact ss_retN
    · cases h
  | .ret (some m) => fun sc E X st hX hp hk h => by
    simp only [chkS] at h
    split at h
    · exact ss_ret (sndE m _ _ _ _ _ hX h).1
    · cases h
  | .ifs c a b => fun sc E X st hX hp hk h => by
    simp only [chkS] at h
    split at h
    · simp only [Bool.and_eq_true] at h
      exact ss_if (sndE c _ _ _ _ _ hX h.1.1).2.1 (sndSs a _ _ _ _ hX hp hk h.1.2) (sndSs b _ _ _ _ hX hp hk h.2)
    · cases h
  | .whl c b => fun sc E X st hX hp hk h => by
    simp only [chkS] at h
    split at h
    · simp only [Bool.and_eq_true] at h
      exact ss_while hp (sndE c _ _ _ _ _ hX h.1).2.1 (sndSs b _ _ _ _ hX hp hk h.2)
    · cases h
  | .for t it b => fun sc E X st hX hp hk h => by
    simp only [chkS] at h
    split at h
    · simp only [Bool.and_eq_true, Bool.not_eq_true'] at h
      obtain ⟨⟨⟨h1, h2⟩, h3⟩, h4⟩ := h
      have hg := chkT_ok (M := M) (g := g) (wsc := sc) hX.calm hX.nd hX.fn 3 t _ (by rw [hX.eN, hX.scope]; exact h1)
      cases hq : it.sq with
      | false => exact ss_for hp hX.calm (sndI it _ _ _ _ _ _ hX h3) hg (sndSs b _ _ _ _ hX hp hk h4) h2 hq
      | true => exact ss_forS hp hX.calm (sndIS it hq _ _ _ _ _ _ hX h3) hg (sndSs b _ _ _ _ hX hp hk h4) h2 hq
    · cases h
  | .pass => fun sc E X st hX hp hk h => by
    simp only [chkS] at h
    split at h
    · exact ss_pass
    · cases h
  | .nev => fun sc E X st hX hp hk h => PS.imp ps_never fun D σ H ⟨W, env, s, en, S, P⟩ => P.elim
  | .raise c fs ms => fun sc E X st hX hp hk h => by
    simp only [chkS] at h
    split at h
    · exact chkRs_ok hX h
    · cases h
  | .try _ _ => fun sc E X st hX hp hk h => by simp only [chkS] at h; cases h
theorem sndSs : ∀ ms : List MS, SndSs T C M g k ms
  | [] => fun sc E X sts hX hp hk h => by
    simp only [chkSs] at h
    split at h
    · exact ss_nil
    · cases h
  | m :: ms => fun sc E X sts hX hp hk h => by
    simp only [chkSs] at h
    split at h
    · simp only [Bool.and_eq_true] at h
      exact ss_cons (sndS m _ _ _ _ hX hp hk h.1) (sndSs ms _ _ _ _ hX hp hk h.2)
    · cases h
end
end
end Fn

set_option Elab.async false
set_option linter.all false
set_option maxRecDepth 100000
set_option maxHeartbeats 4000000
namespace Fn
open PySem L2 PySem.Spec PyProof.Rows
/-- what a call leaves of the state -/
def finB (s₀ : Sto) (lf : Bool) (s : Sto) : Sto := if lf = true ∧ s.esc = false then { ob := s.ob.take s₀.ob.length, base := s₀.base, esc := s₀.esc } else { ob := s.ob, base := s₀.base, esc := s₀.esc || s.esc }
def Flow.val : Flow → D
  | .ret d => d
  | .next => .non
def finR (s₀ : Sto) : RS → R D
  | .ok f _ s => if s.base = s₀.ob.length then .ok f.val (finB s₀ f.val.lf s) else .no
  | .ex x _ s => if s.base = s₀.ob.length then .ex x (finB s₀ (D.lfF x.fs) s) else .no
  | .no => .no
/-- what the def f answers, within n calls one in another -/
def run (G : Pg) : Nat → String → List D → Sto → R D
  | 0, _, _, _ => .no
  | n + 1, f, ds, s => match G.fn f with
    | some fd => if ds.length = fd.np ∧ fd.np ≤ fd.ns then
        finR s (evSs ⟨run G n, G.fuel, none, G.sub⟩ fd.body (ds.map some ++ List.replicate (fd.ns - fd.np) none) { s with base := s.ob.length, esc := false })
      else .no
    | none => .no
section
variable {K : PySem.W.Frag} {M : Nm} {g g' : Nat → Prop} {W W' : Wd} {H H' : Hp} {st s : Sto}
theorem cut_n : W.cut W.n = W := rfl
/-- a callee's marks -/
def marks (g : Nat → Prop) (st : Sto) : Nat → Prop := fun m => m = st.ob.length ∨ (st.esc = false ∧ g m ∧ m ≤ st.base)
theorem StR.enter (S : StR K M W H g st) : StR K M W H (marks g st) { st with base := st.ob.length, esc := false } := by
  refine ⟨S.fz, S.len, S.ob, S.inj, by show st.ob.length ≤ W.n; rw [S.len]; exact Nat.le_refl _, S.fr, S.lc, S.lk, fun he m hm hle l o hl e => ?_, S.tb⟩
  rcases hm with rfl | ⟨h1, h2, h3⟩
  · rw [S.len, cut_n]
    exact S.ob l o e
  · exact S.old h1 m h2 h3 l o hl e
theorem StR.leave (S0 : StR K M W H g st) (L : Le W W') (S : StR K M W' H' (marks g st) s) (hb : s.base = st.ob.length) (lf : Bool) :
    (lf = true → s.esc = false → StR K M (W'.cut W.n) H' g (finB st lf s)) ∧ ((lf = false ∨ s.esc = true) → StR K M W' H' g (finB st lf s)) := by
  have hn : st.ob.length = W.n := S0.len
  refine ⟨fun h1 h2 => ?_, fun h => ?_⟩
  · have e : finB st lf s = { ob := s.ob.take W.n, base := st.base, esc := st.esc } := by
      unfold finB
      rw [if_pos ⟨h1, h2⟩, hn]
    rw [e]
    have tk : ∀ {l o}, (s.ob.take W.n)[l]? = some o → l < W.n ∧ s.ob[l]? = some o := fun {l o} q => by
      have hl := (List.getElem?_eq_some_iff.mp q).1
      rw [List.length_take] at hl
      have hl : l < W.n := Nat.lt_of_lt_of_le hl (Nat.min_le_left _ _)
      rw [List.getElem?_take_of_lt hl] at q
      exact ⟨hl, q⟩
    have lw : ∀ {l}, l < W.n → l < W'.n := fun h => Nat.lt_of_lt_of_le h L.n
    refine ⟨S.fz, ?_, fun l o q => ?_, fun l l' h h' q => S.inj l l' (lw h) (lw h') q, S0.base, fun a u q => ?_, fun a u q => ?_, fun l o q => ?_, fun he m hm hle l o hl q => ?_, ⟨S.tb.tabs, S.tb.fz, S.tb.fr, S.tb.lc⟩⟩
    · show (s.ob.take W.n).length = W.n
      rw [List.length_take, S.len]
      exact Nat.min_eq_left L.n
    · obtain ⟨hl, q⟩ := tk q
      exact S.old h2 W.n (.inl hn.symm) (by rw [hb, hn]; exact Nat.le_refl _) l o hl q
    · obtain ⟨q1, q2, q3⟩ := S.fr a u q
      exact ⟨q1, q2, fun l h => q3 l (lw h)⟩
    · obtain ⟨q1, q2, q3, q4⟩ := S.lc a u q
      refine ⟨q1, q2, q3, fun l h eb => ?_⟩
      have e5 : (s.ob.take W.n)[l]? = s.ob[l]? := List.getElem?_take_of_lt h
      rcases q4 l (lw h) eb with z | ⟨o, z⟩
      · exact .inl (e5.trans z)
      · exact .inr ⟨o, e5.trans z⟩
    · exact S.lk l o (tk q).2
    · obtain ⟨_, q⟩ := tk q
      have hm' : m ≤ st.base := hle
      have := S0.base
      exact S.old h2 m (.inr ⟨he, hm, hle⟩) (by rw [hb, hn]; omega) l o hl q
  · have e : finB st lf s = { ob := s.ob, base := st.base, esc := st.esc || s.esc } := by
      unfold finB
      rw [if_neg]
      rintro ⟨h1, h2⟩
      rcases h with h | h
      · rw [h1] at h; cases h
      · rw [h2] at h; cases h
    rw [e]
    refine ⟨S.fz, S.len, S.ob, S.inj, Nat.le_trans S0.base L.n, S.fr, S.lc, S.lk, fun he m hm hle l o hl q => ?_, S.tb⟩
    have he : (st.esc || s.esc) = false := he
    obtain ⟨h1, h2⟩ := Bool.or_eq_false_iff.mp he
    have hm' : m ≤ st.base := hle
    have := S0.base
    exact S.old h2 m (.inr ⟨h1, hm, hle⟩) (by rw [hb, hn]; omega) l o hl q
theorem Le.cutN (L : Le W W') : Le W (W'.cut W.n) := ⟨L.fz, Nat.le_refl _, L.bt, L.fr, L.lc⟩
theorem lfF_get : ∀ {fs : List (String × D)} {f : String} {d : D}, D.lfF fs = true → fget fs f = some d → d.lf = true
  | [], _, _, _, h => by cases h
  | (g, e) :: r, f, d, h, q => by
    simp only [D.lfF, Bool.and_eq_true] at h
    unfold fget at q
    split at q
    · cases q; exact h.1
    · exact lfF_get h.2 q
theorem fin_ok {E : XK} {Q : VK} {r : RS} {N : List Str} (S0 : StR K M W H g st) (P : Post K M g (Rl K M) E W Q (finR st r)) :
    PostS K M (marks g st) (fun cls d _ H => E cls d H) { nx := fun _ H' => Q .non H', rt := Q } W r := by
  have okC : ∀ {d : D} {s : Sto} {W' H' v}, Post K M g (Rl K M) E W Q (if s.base = st.ob.length then .ok d (finB st d.lf s) else .no) → Le W W' → StR K M W' H' (marks g st) s → Rl K M W' v d → Q v H' := fun {d s W' H' v} P L S rv => by
    split at P
    · rename_i hb
      have q := S0.leave L S hb d.lf
      by_cases h : d.lf = true ∧ s.esc = false
      · exact P (W'.cut W.n) H' v L.cutN (q.1 h.1 h.2) (rv.cut h.1)
      · refine P W' H' v L (q.2 ?_) rv
        cases h1 : d.lf with
        | false => exact .inl rfl
        | true =>
          cases h2 : s.esc with
          | true => exact .inr rfl
          | false => exact absurd ⟨h1, h2⟩ h
    · exact P.elim
  match r, P with
  | .ok .next e s, P => exact fun W' H' σ' L en S => okC P L S .non
  | .ok (.ret d) e s, P => exact fun W' H' v L S rv => okC P L S rv
  | .ex x e s, P =>
    intro W' H' σ' cls dd L en S xr
    have P : Post K M g (Rl K M) E W Q (if s.base = st.ob.length then .ex x (finB st (D.lfF x.fs) s) else .no) := P
    split at P
    · rename_i hb
      have q := S0.leave L S hb (D.lfF x.fs)
      by_cases h : D.lfF x.fs = true ∧ s.esc = false
      · refine P (W'.cut W.n) H' cls dd L.cutN (q.1 h.1 h.2) ⟨xr.cls, xr.kn, fun f d hf => ?_⟩
        obtain ⟨dx, fs, v, a, b, c, rv⟩ := xr.fs f d hf
        exact ⟨dx, fs, v, a, b, c, rv.cut (lfF_get h.1 hf)⟩
      · refine P W' H' cls dd L (q.2 ?_) xr
        cases h1 : D.lfF x.fs with
        | false => exact .inl rfl
        | true =>
          cases h2 : s.esc with
          | true => exact .inr rfl
          | false => exact absurd ⟨h1, h2⟩ h
    · exact P.elim
  | .no, P => exact P.elim
theorem env_start {N : List Str} {vs : List V} {ds : List D} {ns : Nat} (hN : N.length = ns) (hl : vs.length ≤ N.length) (r : RlL K M W vs ds) : EnvR K M W (L2.start N vs) (ds.map some ++ List.replicate (ns - ds.length) none) := by
  have hv := r.length
  refine ⟨by unfold L2.start; simp [hv, hN], fun i d h => ?_⟩
  by_cases hi : i < ds.length
  · rw [List.getElem?_append_left (by simpa using hi), List.getElem?_map] at h
    obtain ⟨d', h1, h2⟩ := Option.map_eq_some_iff.mp h
    cases h2
    obtain ⟨v, h3, h4⟩ := r.get h1
    refine ⟨v, ?_, h4⟩
    unfold L2.start
    rw [List.getElem?_append_left (by rw [List.length_map, hv]; exact hi), List.getElem?_map, h3]
    rfl
  · rw [List.getElem?_append_right (by simpa using hi), List.getElem?_replicate] at h
    split at h <;> cases h
end
/-- the def's code object is known -/
theorem okC {P : Program} {w : World} {K : PySem.W.Frag} {mg : Str → Option Value} {base : Heap} {x qual : Str} {params : Arguments} {body : List Stmt} {scope : Scope} {dvs : List V} {kws : List (Str × V)} {f : Addr} {fd : FuncData} {CX : CXT} {N ps : List Str} {k : Nat} {sp : L2.Sp}
    (F : FunD K x qual params body scope dvs kws f fd) (S : FnScope N ps scope) (len : ∀ vs H Q E, sp vs H Q E → vs.length = ps.length)
    (hbody : ∀ (A : Around) (outer : List PySem.Env) (s : Shared) (H : Hp) (vs : List V) (Q : VK) (E : XK), Room k (A.deeper (envOfC qual scope s.heap.objs.size f fd.code)) → sp vs H Q E →
      ∃ t, PSs (cxOf CX P w K mg base N qual scope f fd.code A outer s H E) body t ∧ t { nx := fun _ H' => Q .non H', rt := Q } (L2.start N vs) H) : FnOk P w K mg base CX (k + 1) f fd ps sp := by
  obtain ⟨oc, od, dV, kV, doc, pm, an, cdv, ct, osl, rfl, lk, hcd, _, _⟩ := F.ex
  exact fn_of lk hcd S len fun A outer s H vs Q E hr hsp => hbody A outer s H vs Q E hr hsp
/-- what stands of the module's names -/
structure MdOk (P : Program) (w : World) (K : PySem.W.Frag) (mg : Str → Option Value) (base : Heap) (M : Nm) (rn : String → List D → Sto → R D) (k : Nat) (T : Tx) : Prop where
  glb : ∀ x d, T.glb x d = true → ∃ v u, mg (sOf x) = some u ∧ RelV v u ∧ ∀ W, Rl K M W v d
  blt : ∀ x ∈ bltNs, mg (sOf x) = none
  call : ∀ f n ks pl, T.call f n ks pl = true → ∃ a, mg (sOf f) = some (.ref a) ∧ PySem.W.keepIn K (.ref a) = true ∧ CallOk P w K mg base M (rn f) k a n (ks.map sOf) (srcs pl)
  fld : ∀ c f, T.fld c f = true → Cls K (M.cls c) ∧ NoAttr K (M.cls c) (sOf f)
  meth : ∀ c m n ks pl, T.meth c m n ks pl = true → Cls K (M.cls c) ∧ ∃ a, Meth K (M.cls c) (sOf m) a ∧ CallOk P w K mg base M (rn (c ++ "." ++ m)) k a (n + 1) (ks.map sOf) (plM pl)
  make : ∀ c n ks pl, T.make c n ks pl = true → mg (sOf c) = some (.ref (M.cls c)) ∧ ∃ a, Mk K (M.cls c) a ∧ CallOk P w K mg base M (rn (c ++ ".__init__")) k a (n + 1) (ks.map sOf) (plM pl)
  exc : ∀ c fs, T.exc c fs = true → mg (sOf c) = some (.ref (M.cls c)) ∧ c ∈ M.ex ∧ fs.Nodup ∧ ExcOk P w K mg base M k c fs
/-- THE RULE: a def of the text, by its checked form -/
theorem fd_ok {P : Program} {w : World} {K : PySem.W.Frag} {mg : Str → Option Value} {base : Heap} {M : Nm} {G : Pg} {n : Nat} {name : String} {fd : Fd} {T : Tx} {x qual : Str} {params : Arguments} {body : List Stmt} {scope : Scope} {dvs : List V} {kws : List (Str × V)} {f : Addr} {fdd : FuncData} {ps : List Str}
    (F : FunD K x qual params body scope dvs kws f fdd) (S : FnScope T.N ps scope) (hfn : G.fn name = some fd) (hnp : fd.np = ps.length) (hns : fd.ns = T.N.length) (hchk : chkSs T scope fd.body body = true)
    (md : MdOk P w K mg base M (run G n) (4 * n + 1) T) (hw : ∀ g ws, T.why g ws = true → WhyOk P K mg base M G.sub fdd.code (qual ++ ".<locals>.") g ws) :
    FnOk P w K mg base (L2.CX P w) (4 * (n + 1) + 1) f fdd ps (spF K M (run G (n + 1) name)) := by
  have hrun : ∀ ds s, run G (n + 1) name ds s = if ds.length = fd.np ∧ fd.np ≤ fd.ns then
        finR s (evSs ⟨run G n, G.fuel, none, G.sub⟩ fd.body (ds.map some ++ List.replicate (fd.ns - fd.np) none) { s with base := s.ob.length, esc := false })
      else .no := fun ds s => by
    show (match G.fn name with | some fd => _ | none => _) = _
    rw [hfn]
  refine okC F S (fun vs H Q E ⟨g, W, s, ds, S0, rl, Pq⟩ => ?_) fun A outer s H vs Q E hr ⟨g, W, st, ds, S0, rl, Pq⟩ => ?_
  · rw [hrun] at Pq
    split at Pq
    · rename_i h
      rw [rl.length, h.1, hnp]
    · exact Pq.elim
  · rw [hrun] at Pq
    split at Pq
    · rename_i h
      refine ⟨TS' K M (marks g st) (evSs ⟨run G n, G.fuel, none, G.sub⟩ fd.body) (fun cls d _ H => E cls d H), ?_, W, _, _, ?_, S0.enter, fin_ok (N := T.N) S0 Pq⟩
      · refine sndSs (T := T) (C := ⟨run G n, G.fuel, none, G.sub⟩) (M := M) (g := marks g st) (k := 4 * n + 1) fd.body scope _ (cxOf (L2.CX P w) P w K mg base T.N qual scope f fdd.code A outer s H E) body ⟨rfl, S.nd, rfl, hr.mono (by omega), rfl, fun _ _ => rfl, takes_of rfl rfl rfl rfl, md.glb, md.blt, md.call, md.fld, md.meth, md.make, fun _ _ _ => hr.mono (by omega), hw, md.exc⟩ (passes_of rfl) S.kind hchk
      · have := env_start (K := K) (M := M) (W := W) (ns := fd.ns) hns.symm (by rw [rl.length, h.1, ← hns]; exact h.2) rl
        rw [h.1] at this
        exact this
    · exact Pq.elim
end Fn

set_option Elab.async false
set_option linter.all false
set_option maxRecDepth 100000
set_option maxHeartbeats 4000000
namespace Fn
open PySem L2 PySem.Spec PyProof.Rows
section
variable {P : Program} {w : World} {K : PySem.W.Frag} {mg : Str → Option Value} {base : Heap} {M : Nm} {f : List D → Sto → R D} {k : Nat} {a : Addr} {fd : FuncData} {ps : List Str} {n : Nat}
/-- nothing is promised within no call -/
theorem fn_zero {CX : CXT} {G : Pg} {name : String} : FnOk P w K mg base CX k a fd ps (spF K M (run G 0 name)) :=
  ⟨fun vs H Q E ⟨g, W, s, ds, _, _, Pq⟩ => Pq.elim, fun A outer s H args us vs Q E _ _ _ _ ⟨g, W, st, ds, _, _, Pq⟩ => Pq.elim⟩
/-- what a call without keywords takes: the written values, then the defaults -/
theorem callOk_of {dvs : List V} {dd : List D} {ds' : List Value} {pl : List D → List D → Option (List D)} (F : FnOk P w K mg base (L2.CX P w) k a fd ps (spF K M f)) (hb : Binds K fd ps ds') (hv : Vals dvs ds') (hn : n + dvs.length = ps.length) (hd : ∀ W, RlL K M W dvs dd)
    (hpl : ∀ ds es xs, ds.length = n → pl ds es = some xs → xs = ds ++ dd) : CallOk P w K mg base M f k a n ([].map sOf) pl := by
  refine ⟨fd, ps, fun us _ => us ++ ds', fun vs _ => vs ++ dvs, F, ⟨fun s us ws KI l1 l2 => ?_, fun r1 r2 => r1.append hv⟩, fun W vs ds zs es xs rl rlz hl h => ?_⟩
  · have := hb s us KI (by rw [List.length_append, l1, ← hv.length]; exact hn)
    exact this
  · rw [hpl ds es xs (by rw [← rl.length]; exact hl) h]
    exact rl.append (hd W)
/-- .. all values are written -/
theorem callOk_all {pl : List D → List D → Option (List D)} (F : FnOk P w K mg base (L2.CX P w) k a fd ps (spF K M f)) (hb : Binds K fd ps []) (hn : n = ps.length) (hpl : ∀ ds es xs, ds.length = n → pl ds es = some xs → xs = ds) : CallOk P w K mg base M f k a n ([].map sOf) pl :=
  callOk_of (dvs := []) (dd := []) F hb .nil (by simpa using hn) (fun _ => .nil) fun ds es xs h1 h2 => by rw [hpl ds es xs h1 h2, List.append_nil]
/-- an exception of any world -/
def CXe (P : Program) : CXT := fun outer H s E u s' => ∃ w, L2.CX P w outer H s E u s'
theorem fn_any {sp : L2.Sp} (F : FnOk P w K mg base (L2.CX P w) k a fd ps sp) : FnOk P w K mg base (CXe P) k a fd ps sp := by
  refine ⟨F.len, fun A outer s H args us vs Q E hr he hb hv hs => codeAny_mono (F.run A outer s H args us vs Q E hr he hb hv hs) fun r s' h => ?_⟩
  cases r with
  | error e => exact ⟨w, h⟩
  | ok fl => cases fl <;> exact h
theorem cxe_no (H : Hp) (s : Shared) (e : Value) (s' : Shared) : CXe P [] H s (fun _ _ _ => False) e s' → False := fun ⟨_, _, _, _, _, _, _, _, _, _, _, _, _, h⟩ => h
theorem tabs_of {tb : List (Addr × Str)} {H : Hp} (h : ∀ p ∈ tb, H p.1 = some (.tbl #[])) : LamX.Tabs tb H := fun p hp => ⟨#[], h p hp, by trivial, fun pos cv z => by cases z⟩
/-- the script, at the entry of a law -/
theorem script_sp {H : Hp} {sa : Addr} {ns : List Int} {name : String} {G : Pg} {N : Nat} (tb : ∀ p ∈ M.tb, H p.1 = some (.tbl #[])) (hS : SqL K H sa (ns.map V.int))
    (h : ∃ s', run G N name [.klst (ns.map D.int)] ⟨[], 0, false⟩ = .ok (.bl true) s') : spF K M (run G N name) [.ref sa] H (fun v _ => v = .bl true) fun _ _ _ => False := by
  obtain ⟨s', h⟩ := h
  have key : ∀ W : Wd, W.n = 0 → StR K M W H (fun _ => False) ⟨[], 0, false⟩ → Rl K M W (.ref sa) (.klst (ns.map D.int)) → spF K M (run G N name) [.ref sa] H (fun v _ => v = .bl true) fun _ _ _ => False := fun W _ S r =>
    ⟨_, W, _, _, S, .cons r .nil, by rw [h]; exact fun W' H' v L S' rv => by cases rv; rfl⟩
  have go : ∀ ho : HO, H sa = some ho → NT ho → (ho = .lst (ns.map V.int) ∨ ∃ o, ho = .frz o (.lst (ns.map V.int))) → spF K M (run G N name) [.ref sa] H (fun v _ => v = .bl true) fun _ _ _ => False := fun ho hf hn hz => by
    have e : ∀ b u, (if b = sa then some ho else none) = some u → b = sa ∧ u = ho := fun b u q => by
      split at q
      · rename_i z; cases q; exact ⟨z, rfl⟩
      · cases q
    refine key ⟨fun b => if b = sa then some ho else none, fun _ => 0, 0, fun _ => none, fun _ => none⟩ rfl ⟨fun b u q => ?_, rfl, fun l o q => (by simp at q), fun l l' h => absurd h (Nat.not_lt_zero _), Nat.le_refl _, fun b u q => (by cases q), fun b u q => (by cases q), fun l o q => (by simp at q), fun _ m hm => hm.elim, tabs_of tb, fun b u q => ?_, fun b u q => (by cases q), fun b u q => (by cases q)⟩ (.klst (.inl ?_) (rl_ints ns))
    · obtain ⟨rfl, rfl⟩ := e b u q
      exact .inl hf
    · obtain ⟨rfl, rfl⟩ := e b u q
      exact hn
    · rcases hz with rfl | ⟨o, rfl⟩
      · exact .inl (if_pos rfl)
      · exact .inr ⟨o, if_pos rfl⟩
  rcases hS with hR | hK
  · rcases hR with h1 | ⟨o, h1⟩
    · exact go _ h1 ⟨fun _ z => (nomatch z), fun _ z => (nomatch z)⟩ (.inl rfl)
    · exact go _ h1 .frz (.inr ⟨o, rfl⟩)
  · refine key ⟨fun b => none, fun _ => 0, 0, fun _ => none, fun _ => none⟩ rfl ⟨fun b u q => (by cases q), rfl, fun l o q => (by simp at q), fun l l' h => absurd h (Nat.not_lt_zero _), Nat.le_refl _, fun b u q => (by cases q), fun b u q => (by cases q), fun l o q => (by simp at q), fun _ m hm => hm.elim, tabs_of tb, fun b u q => (by cases q), fun b u q => (by cases q), fun b u q => (by cases q)⟩ (.klst (.inr fun H' => .inr hK) (rl_ints ns))
end
/-- an exception class with an __init__ -/
def oexB (K : PySem.W.Frag) (C : Addr) : Bool := (match K.lookup C with
  | some ⟨.type "type", _, .cls cd, sl⟩ => (match cd.mro, sl.toList with
    | .ref C' :: bm, [_, _, _, _, some (.builtin n), _] => C' == C && n == "ValueError.__new__" && !cd.hasDel && cd.hasDict && PySem.HandSPX.refsVE bm
    | _, _ => false)
  | _ => false) && He.eqO (PySem.W.findIn K (.ref C) "__setattr__") (some (some (.builtin "object.__setattr__"))) && decide (PySem.W.subIn K (.ref C) (.type "BaseException") = some true) && decide (PySem.W.typeIn K (.ref C) = some (.type "type")) && PySem.W.keepIn K (.ref C)
theorem oexB_ok {K : PySem.W.Frag} {C : Addr} (h : oexB K C = true) : OexC K C := by
  unfold oexB at h
  simp only [Bool.and_eq_true, decide_eq_true_eq] at h
  obtain ⟨⟨⟨⟨q, h2⟩, h3⟩, h4⟩, h5⟩ := h
  refine ⟨?_, He.eqO_ok h2, h3, h4, h5⟩
  split at q
  · rename_i dd cd sl ho
    split at q
    · rename_i C' bm k0 k1 k2 k3 n k5 hm hs
      simp only [Bool.and_eq_true, beq_iff_eq, Bool.not_eq_true'] at q
      obtain ⟨⟨⟨⟨rfl, rfl⟩, hdel⟩, hdi⟩, ht⟩ := q
      obtain ⟨nm, bs, mro, ns, qn, hd, sn, sub, ab, col, del⟩ := cd
      dsimp only at hm hdel hdi
      subst hm hdel hdi
      have hsl : sl = #[k0, k1, k2, k3, some (.builtin "ValueError.__new__"), k5] := by
        obtain ⟨l⟩ := sl
        simp only at hs
        rw [hs]
      subst hsl
      exact ⟨nm, qn, ns, bs, bm, sn, sub, ab, col, dd, k0, k1, k2, k3, k5, ho, ht⟩
    · cases q
  · cases q
section
variable {K : PySem.W.Frag} {x qual : Str} {params : Arguments} {body : List Stmt} {scope : Scope} {dvs : List V} {kws : List (Str × V)} {f : Addr} {fd : FuncData} {ps : List Str}
/-- keywords, no defaults -/
theorem kbindsP (F : FunD K x qual params body scope [] kws f fd) (n : Nat) (ks : List Str) (g : {α : Type} → List α → List α → List α)
    (hrel : ∀ {vs zs : List V} {us ws : List Value}, Vals vs us → Vals zs ws → Vals (g vs zs) (g us ws))
    (h : ∀ (kV doc pm : Value) (an : Option Addr) (cdv ct : Value) (us ws : List Value), us.length = n → ws.length = ks.length →
      bindArgs (PySem.W.fnOf x qual params body scope .none kV doc pm an cdv ct) ⟨us, ks.zip ws⟩ = pure (ps.zip (g us ws))) :
    KBn K fd ps n ks (fun us ws => g us ws) (fun vs zs => g vs zs) := by
  obtain ⟨oc, od, dV, kV, doc, pm, an, cdv, ct, osl, rfl, lk, hcd, hD, hK⟩ := F.ex
  rcases hD with ⟨_, rfl⟩ | ⟨e, _⟩
  · exact ⟨fun s us ws X l1 l2 => .of_eq (h kV doc pm an cdv ct us ws l1 l2), hrel⟩
  · exact absurd rfl e
theorem vals_drop {vs : List V} {us : List Value} (r : Vals vs us) (n : Nat) : Vals (vs.drop n) (us.drop n) := r.drop n
theorem vals_take {vs : List V} {us : List Value} (r : Vals vs us) : ∀ n : Nat, Vals (vs.take n) (us.take n) := by
  induction r with
  | nil => intro n; rw [List.take_nil, List.take_nil]; exact .nil
  | cons h _ ih =>
    intro n
    cases n with
    | zero => exact .nil
    | succ n => exact .cons h (ih n)
end
theorem rl_n0 {K : PySem.W.Frag} {M : Nm} {W : Wd} {vs : List V} {ds : List D} (r : RlL K M W vs ds) (h : vs.length = 0) : vs = [] ∧ ds = [] := by
  cases r with
  | nil => exact ⟨rfl, rfl⟩
  | cons _ _ => cases h
theorem rl_nS {K : PySem.W.Frag} {M : Nm} {W : Wd} {vs : List V} {ds : List D} {n : Nat} (r : RlL K M W vs ds) (h : vs.length = n + 1) : ∃ v d vs' ds', vs = v :: vs' ∧ ds = d :: ds' ∧ Rl K M W v d ∧ RlL K M W vs' ds' ∧ vs'.length = n := by
  cases r with
  | nil => cases h
  | cons a b => exact ⟨_, _, _, _, rfl, rfl, a, b, by simpa using h⟩
/-- the def's code object -/
theorem code_of {K : PySem.W.Frag} {x qual : Str} {params : Arguments} {body : List Stmt} {scope : Scope} {dvs : List V} {kws : List (Str × V)} {p : Str × Option Str} {fd : FuncData} (F : FunD K x qual params body scope dvs kws (He.fAd K p) fd) : fd.code = .ref (He.codeOf K p) := by
  obtain ⟨oc, od, dV, kV, doc, pm, an, cdv, ct, osl, rfl, lk, hcd, _, _⟩ := F.ex
  obtain ⟨c, rfl⟩ := He.codeIn_ref hcd
  show Value.ref c = _
  rw [He.codeOf_eq lk rfl]
theorem fn_ty {K : PySem.W.Frag} {v : Value} (h : PySem.W.isFn K v = true) : PySem.W.typeIn K v = some (.type "function") := eq_of_beq h
end Fn

set_option linter.all false
set_option maxRecDepth 4000
namespace Fn
open Fn
theorem run_eq (G : Pg) (n : Nat) (f : String) (fd : Fd) (h : G.fn f = some fd) (ds : List D) (s : Sto) (h1 : ds.length = fd.np) (h2 : fd.np ≤ fd.ns) :
    run G (n + 1) f ds s = finR s (evSs ⟨run G n, G.fuel, none, G.sub⟩ fd.body (ds.map some ++ List.replicate (fd.ns - fd.np) none) { s with base := s.ob.length, esc := false }) := by
  show (match G.fn f with | some fd => _ | none => _) = _
  rw [h]
  exact if_pos ⟨h1, h2⟩
theorem take_self (s : Sto) : s.ob.take s.ob.length = s.ob := List.take_length
/-- a def that only answers -/
theorem fin_pure (s : Sto) (d : D) (e : Env) (h : d.lf = true) : finR s (.ok (.ret d) e { s with base := s.ob.length, esc := false }) = .ok d s := by
  show (if s.ob.length = s.ob.length then R.ok d (finB s d.lf _) else .no) = _
  rw [if_pos rfl]
  unfold finB
  rw [if_pos ⟨h, rfl⟩]
  show R.ok d { ob := s.ob.take s.ob.length, base := s.base, esc := s.esc } = _
  rw [List.take_length]
/-- Euclid's loop -/
theorem euclid (c : Env → Sto → R Bool) (bd : Env → Sto → RS) (hc : ∀ (a b : Nat) s, c [some (.int a), some (.int b)] s = .ok (decide (b ≠ 0)) s)
    (hb : ∀ (a b : Nat) s, b ≠ 0 → bd [some (.int a), some (.int b)] s = .ok .next [some (.int b), some (.int ((a % b : Nat) : Int))] s) (k : Nat) : ∀ (a b : Nat) (s : Sto), b < k →
    whileL c bd k [some (.int a), some (.int b)] s = .ok .next [some (.int (Nat.gcd a b : Nat)), some (.int (0 : Nat))] s := by
  induction k with
  | zero => intro a b s h; omega
  | succ k ih =>
    intro a b s h
    rw [whileL, hc]
    by_cases h0 : b = 0
    · subst h0
      simp
    · have h1 := hb a b s h0
      have g : Nat.gcd a b = Nat.gcd b (a % b) := by rw [Nat.gcd_comm a b, Nat.gcd_rec b a, Nat.gcd_comm]
      simp only [h0, ne_eq, not_false_eq_true, decide_true, h1, g]
      exact ih b (a % b) s (by have := Nat.mod_lt a (Nat.pos_of_ne_zero h0); omega)
theorem gcd_body (C : Ctx) (a b : Nat) (s : Sto) (h : b ≠ 0) : evSs C [.mul [.nm 0, .nm 1] [.var 1, .bin .mod (.var 0) (.var 1)]] [some (.int a), some (.int b)] s = .ok .next [some (.int b), some (.int ((a % b : Nat) : Int))] s := by
  have hb' : ((b : Int) ≠ 0) := by omega
  have e1 : Int.fmod (a : Int) (b : Int) = ((a % b : Nat) : Int) := by
    rw [Int.fmod_eq_emod_of_nonneg _ (by omega)]
    rfl
  have e2 : Fn.bin .mod (.int (a : Int)) (.int (b : Int)) s = .ok (.int ((a % b : Nat) : Int)) s := by
    show (if (b : Int) ≠ 0 then R.ok (D.int (Int.fmod a b)) s else .no) = _
    rw [if_pos hb', e1]
  simp only [evSs, evS, evEs, evE, List.getElem?_cons_succ, List.getElem?_cons_zero, R.bind_ok, e2, R.then_ok]
  rfl
theorem absD (a : Int) (s : Sto) (m : Bool) : bltE .abs m [.int a] s = .ok (.int (a.natAbs : Int)) s := by
  show R.ok (D.int (if a < 0 then -a else a)) s = _
  congr 2
  split <;> omega
/-- the two gcds -/
def fCommon : Fd := ⟨2, 2, [
    .mul [.nm 0, .nm 1] [.blt .abs false [.var 0], .blt .abs false [.var 1]],
    .whl (.var 1) [.mul [.nm 0, .nm 1] [.var 1, .bin .mod (.var 0) (.var 1)]],
    .ret (some (.var 0))]⟩
def fGcd : Fd := ⟨2, 2, [
    .asg [.nm 0] (.blt .abs false [.var 0]),
    .asg [.nm 1] (.blt .abs false [.var 1]),
    .whl (.cmp .gt (.var 1) (.cst (.int 0))) [.mul [.nm 0, .nm 1] [.var 1, .bin .mod (.var 0) (.var 1)]],
    .ret (some (.var 0))]⟩
theorem common_run (G : Pg) (h : G.fn "common" = some fCommon) (n : Nat) (a b : Int) (s : Sto) (hf : b.natAbs < G.fuel) : run G (n + 1) "common" [.int a, .int b] s = .ok (.int (Int.gcd a b)) s := by
  rw [run_eq G n _ _ h _ _ rfl (by decide)]
  rw [← fin_pure s (.int (Int.gcd a b)) [some (.int (Int.gcd a b)), some (.int 0)] rfl]
  congr 1
  have w := euclid (fun env s => (evE ⟨run G n, G.fuel, none, G.sub⟩ (.var 1) env s).bind fun d s => at? (truth d s) s) (fun env s => evSs ⟨run G n, G.fuel, none, G.sub⟩ [.mul [.nm 0, .nm 1] [.var 1, .bin .mod (.var 0) (.var 1)]] env s)
    (fun a b s => by
      show R.ok (decide ((b : Int) ≠ 0)) s = R.ok (decide (b ≠ 0)) s
      congr 1
      exact decide_eq_decide.mpr (by omega)) (fun a b s hb => gcd_body _ a b s hb) G.fuel a.natAbs b.natAbs { s with base := s.ob.length, esc := false } hf
  show evSs _ (_ :: _ :: _ :: []) _ _ = _
  rw [evSs]
  simp only [fCommon, evS, evEs, evE, List.map_cons, List.map_nil, List.cons_append, List.nil_append, List.getElem?_cons_succ, List.getElem?_cons_zero, R.bind_ok, absD, R.then_ok, bindNames, at?_some, List.set_cons_zero, List.set_cons_succ]
  rw [evSs]
  simp only [evS]
  erw [w]
  rfl
theorem lawgcd_run (G : Pg) (h : G.fn "_law_gcd" = some fGcd) (n : Nat) (a b : Int) (s : Sto) (hf : b.natAbs < G.fuel) : run G (n + 1) "_law_gcd" [.int a, .int b] s = .ok (.int (Int.gcd a b)) s := by
  rw [run_eq G n _ _ h _ _ rfl (by decide)]
  rw [← fin_pure s (.int (Int.gcd a b)) [some (.int (Int.gcd a b)), some (.int 0)] rfl]
  congr 1
  have w := euclid (fun env s => (evE ⟨run G n, G.fuel, none, G.sub⟩ (.cmp .gt (.var 1) (.cst (.int 0))) env s).bind fun d s => at? (truth d s) s) (fun env s => evSs ⟨run G n, G.fuel, none, G.sub⟩ [.mul [.nm 0, .nm 1] [.var 1, .bin .mod (.var 0) (.var 1)]] env s)
    (fun a b s => by
      show R.ok (decide ((0 : Int) < (b : Int))) s = R.ok (decide (b ≠ 0)) s
      congr 1
      exact decide_eq_decide.mpr (by omega)) (fun a b s hb => gcd_body _ a b s hb) G.fuel a.natAbs b.natAbs { s with base := s.ob.length, esc := false } hf
  show evSs _ (_ :: _ :: _ :: _ :: []) _ _ = _
  rw [evSs]
  simp only [fGcd, evS, evEs, evE, List.map_cons, List.map_nil, List.cons_append, List.nil_append, List.getElem?_cons_succ, List.getElem?_cons_zero, R.bind_ok, absD, R.then_ok, asgTs, asgT, at?_some, List.set_cons_zero, List.set_cons_succ]
  rw [evSs]
  simp only [evS, evEs, evE, List.getElem?_cons_succ, List.getElem?_cons_zero, R.bind_ok, absD, R.then_ok, asgTs, asgT, at?_some, List.set_cons_zero, List.set_cons_succ]
  rw [evSs]
  simp only [evS]
  erw [w]
  rfl
def fLow : Fd := ⟨2, 3, [
    .asg [.nm 2] (.call "_law_gcd" [.var 0, .var 1] [] [] [.pos 0, .pos 1]),
    .ifs (.cmp .lt (.var 1) (.cst (.int 0))) [.asg [.nm 2] (.bin .sub (.cst (.int 0)) (.var 2))] [],
    .ret (some (.tup [.bin .fdiv (.var 0) (.var 2), .bin .fdiv (.var 1) (.var 2)]))]⟩
/-- in lowest terms, the lower one above nought -/
theorem low_run (G : Pg) (h : G.fn "_law_low" = some fLow) (hg : G.fn "_law_gcd" = some fGcd) (n : Nat) (a b : Int) (s : Sto) (hb : 0 < b) (hf : b.natAbs < G.fuel) (hd : b.natAbs < divLine) :
    run G (n + 2) "_law_low" [.int a, .int b] s = .ok (.tup [.int (a.fdiv (Int.gcd a b)), .int (b.fdiv (Int.gcd a b))]) s := by
  have gp : 0 < Int.gcd a b := Int.gcd_pos_of_ne_zero_right _ (by omega)
  have gl : Int.gcd a b ≤ b.natAbs := Int.gcd_le_natAbs_right _ (by omega)
  rw [run_eq G (n + 1) _ _ h _ _ rfl (by decide)]
  rw [← fin_pure s _ [some (.int a), some (.int b), some (.int (Int.gcd a b))] (by rfl)]
  congr 1
  have e1 := lawgcd_run G hg n a b { s with base := s.ob.length, esc := false } hf
  have f1 : ∀ (x : Int) s, Fn.bin .fdiv (.int x) (.int (Int.gcd a b)) s = .ok (.int (x.fdiv (Int.gcd a b))) s := fun x s => by
    show (if ((Int.gcd a b : Nat) : Int) ≠ 0 ∧ ((Int.gcd a b : Nat) : Int).natAbs < divLine then _ else _) = _
    rw [if_pos ⟨by omega, by simp only [Int.natAbs_natCast]; omega⟩]
  have nl : ¬ b < 0 := by omega
  simp only [fLow, evSs, evS, evEs, evE, List.map_cons, List.map_nil, List.cons_append, List.nil_append, List.getElem?_cons_succ, List.getElem?_cons_zero, R.bind_ok, R.then_ok, asgTs, asgT, at?_some, srcs, Src.get, e1]
  have c1 : ∀ s, cmp .lt (.int b) (.int 0) s = some false := fun s => by
    show some (decide (b < 0)) = _
    rw [decide_eq_false nl]
  have g2 : (([some (D.int a), some (D.int b)] ++ List.replicate (3 - 2) none).set 2 (some (D.int (Int.gcd a b)))) = [some (.int a), some (.int b), some (.int (Int.gcd a b))] := rfl
  simp [c1, truth, f1, evE, evEs]
end Fn

set_option linter.all false
set_option maxRecDepth 100000
set_option maxHeartbeats 1000000
namespace Fn
theorem idx_loc {s : Sto} {l : Nat} {ds : List D} {i : Int} (h : s.ob[l]? = some (.lst ds)) : idx (.loc l) (.int i) s = ixAt ds i := by
  unfold idx dctOf seqOf view
  simp [h, Ob.unlk]
theorem put_loc {s : Sto} {l k : Nat} {ds : List D} {i : Int} {v : D} (h : s.ob[l]? = some (.lst ds)) (hk : ixPut ds.length i = some k) (hv : v.lf = true) : putIx (.loc l) (.int i) v s = .ok () { s with ob := s.ob.set l (.lst (ds.set k v)) } := by
  unfold putIx
  simp [h, hk, Sto.put, hv]
def fTake : Fd := ⟨2, 3, [
    .aug (.ix (.var 0) (.cst (.int 2))) .add (.cst (.int 1)),
    .asg [.nm 2] (.idx (.idx (.var 0) (.cst (.int 0))) (.idx (.var 0) (.cst (.int 1)))),
    .ifs (.cmp .ge (.var 2) (.bin .pow (.cst (.int 10)) (.cst (.int 18)))) [.asg [.ix (.idx (.var 0) (.cst (.int 0))) (.idx (.var 0) (.cst (.int 1)))] (.bin .fdiv (.var 2) (.var 1)), .ret (some (.bin .mod (.var 2) (.var 1)))] [],
    .asg [.ix (.var 0) (.cst (.int 1))] (.bin .mod (.bin .add (.idx (.var 0) (.cst (.int 1))) (.cst (.int 1))) (.blt .len false [.idx (.var 0) (.cst (.int 0))])),
    .asg [.ix (.var 0) (.cst (.int 3))] (.bin .mod (.bin .add (.bin .add (.bin .mul (.idx (.var 0) (.cst (.int 3))) (.cst (.int 48271))) (.bin .mod (.var 2) (.cst (.int 2147483647)))) (.idx (.var 0) (.cst (.int 2)))) (.cst (.int 2147483647))),
    .ret (some (.bin .mod (.bin .fdiv (.idx (.var 0) (.cst (.int 3))) (.cst (.int 16))) (.var 1)))]⟩
/-- the pot of a law at p -/
structure PotAt (s : Sto) (p c : Nat) (cs : List Int) (at_ : Nat) (cnt seed : Int) : Prop where
  ne : c ≠ p
  pot : s.ob[p]? = some (.lst [.loc c, .int at_, .int cnt, .int seed])
  cells : s.ob[c]? = some (.lst (cs.map .int))
  lt : at_ < cs.length
  pos : ∀ x ∈ cs, 0 ≤ x
  s0 : 0 ≤ seed
  s1 : seed < 2147483647
def Pot (s : Sto) (p : Nat) : Prop := ∃ c cs at_ cnt seed, PotAt s p c cs at_ cnt seed
theorem fin_int (s : Sto) (ob : List Ob) (r : Int) (e : Env) (h : ob.length = s.ob.length) : finR s (.ok (.ret (.int r)) e ⟨ob, s.ob.length, false⟩) = .ok (.int r) { s with ob := ob } := by
  show (if s.ob.length = s.ob.length then R.ok (D.int r) (finB s true _) else .no) = _
  rw [if_pos rfl]
  unfold finB
  rw [if_pos ⟨rfl, rfl⟩, ← h]
  show R.ok _ { ob := ob.take ob.length, base := s.base, esc := s.esc } = _
  rw [List.take_length]
theorem pow18 : (10 : Int) ^ ((18 : Int).toNat) = 1000000000000000000 := by decide +kernel
theorem pow_D (i j : Int) (s : Sto) (h : 0 ≤ j ∧ j ≤ 1000 ∧ i.natAbs < 2 ^ 64) : Fn.bin .pow (.int i) (.int j) s = .ok (.int (i ^ j.toNat)) s := if_pos h
theorem bin18 (s : Sto) : Fn.bin .pow (.int 10) (.int 18) s = .ok (.int 1000000000000000000) s := (pow_D 10 18 s (by decide)).trans (by rw [pow18])
theorem fdiv_D (i j : Int) (s : Sto) (h : 0 < j) (hd : j.natAbs < divLine) : Fn.bin .fdiv (.int i) (.int j) s = .ok (.int (i / j)) s := by
  have : Fn.bin .fdiv (.int i) (.int j) s = .ok (.int (i.fdiv j)) s := if_pos ⟨by omega, hd⟩
  rw [this, Int.fdiv_eq_ediv_of_nonneg _ (by omega)]
theorem mod_D (i j : Int) (s : Sto) (h : 0 < j) : Fn.bin .mod (.int i) (.int j) s = .ok (.int (i % j)) s := by
  have : Fn.bin .mod (.int i) (.int j) s = .ok (.int (i.fmod j)) s := if_pos (by omega)
  rw [this, Int.fmod_eq_emod_of_nonneg _ (by omega)]
theorem add_D (i j : Int) (s : Sto) : Fn.bin .add (.int i) (.int j) s = .ok (.int (i + j)) s := rfl
theorem sub_D (i j : Int) (s : Sto) : Fn.bin .sub (.int i) (.int j) s = .ok (.int (i - j)) s := rfl
theorem mul_D (i j : Int) (s : Sto) (h : mulOk i j) : Fn.bin .mul (.int i) (.int j) s = .ok (.int (i * j)) s := if_pos h
theorem two_pow_line : (1 : Nat) ≤ divLine := Nat.one_le_two_pow
theorem small_line {k : Nat} (h : k < 2 ^ 64) : k < divLine := Nat.lt_of_lt_of_le h (Nat.pow_le_pow_right (by decide) (by decide))
theorem mulOk_of {i j : Int} (hi : i.natAbs < 2 ^ 400000) (hj : j.natAbs < 2 ^ 400000) : mulOk i j := by
  unfold mulOk
  have f : ∀ {n : Nat}, n < 2 ^ 400000 → n.log2 ≤ 400000 := fun {n} h => by
    by_cases z : n = 0
    · subst z; simp
    · exact Nat.le_of_lt ((Nat.log2_lt z).mpr h)
  have := f hi
  have := f hj
  omega
theorem take_fr (G : Pg) (h : G.fn "_law_take" = some fTake) (n : Nat) (p c : Nat) (cs : List Int) (at_ : Nat) (cnt seed : Int) (many : Int) (s : Sto) (P : PotAt s p c cs at_ cnt seed) (hm : 0 < many) (hd : many.natAbs < divLine) :
    ∃ r ob, run G (n + 1) "_law_take" [.loc p, .int many] s = .ok (.int r) { s with ob := ob } ∧ 0 ≤ r ∧ r < many ∧ (∃ cs at_ cnt seed, PotAt { s with ob := ob } p c cs at_ cnt seed) ∧ ob.length = s.ob.length ∧ ∀ i, i ≠ p → i ≠ c → ob[i]? = s.ob[i]? := by
  rw [run_eq G n _ _ h _ _ rfl (by decide)]
  have lp := (List.getElem?_eq_some_iff.mp P.pot).1
  have lc := (List.getElem?_eq_some_iff.mp P.cells).1
  -- the count
  have e1 : ({ s with base := s.ob.length, esc := false } : Sto).ob[p]? = some (.lst [.loc c, .int at_, .int cnt, .int seed]) := P.pot
  have e2 := put_loc (i := 2) (k := 2) (v := .int (cnt + 1)) e1 rfl rfl
  have P1 : PotAt ⟨s.ob.set p (.lst [.loc c, .int at_, .int (cnt + 1), .int seed]), s.ob.length, false⟩ p c cs at_ (cnt + 1) seed :=
    ⟨P.ne, List.getElem?_set_self lp, by rw [List.getElem?_set_ne P.ne.symm]; exact P.cells, P.lt, P.pos, P.s0, P.s1⟩
  have v2 : ixAt [D.loc c, .int at_, .int cnt, .int seed] 2 = some (.int cnt) := rfl
  -- the cell
  have hcell : ixAt (cs.map D.int) (at_ : Int) = some (.int (cs[at_]'P.lt)) := by
    unfold ixAt
    rw [if_pos (by omega)]
    simp [P.lt]
  have i0 : ∀ x, ixAt [D.loc c, .int at_, .int x, .int seed] 0 = some (.loc c) := fun _ => rfl
  have i1 : ∀ x, ixAt [D.loc c, .int at_, .int x, .int seed] 1 = some (.int at_) := fun _ => rfl
  generalize hx : cs[at_]'P.lt = x at hcell
  have cge : ∀ s, cmp .ge (.int x) (.int 1000000000000000000) s = some (decide ((1000000000000000000 : Int) ≤ x)) := fun _ => rfl
  have rp : (List.replicate (3 - 2) (none : Option D)) = [none] := rfl
  simp only [fTake, evSs, evS, augT, evE, List.map_cons, List.map_nil, List.cons_append, List.nil_append, List.getElem?_cons_succ, List.getElem?_cons_zero, R.bind_ok, idx_loc e1, v2, abin, e2, R.then_ok, List.set_cons_zero, List.set_cons_succ,
    idx_loc P1.pot, i0, i1, at?_some, idx_loc P1.cells, hcell, asgTs, asgT, bin18, cge, Option.map_some, truth, rp, List.set_cons_zero, List.set_cons_succ, List.getElem?_cons_succ, List.getElem?_cons_zero]
  by_cases hb : (1000000000000000000 : Int) ≤ x
  · have e3 := put_loc (i := (at_ : Int)) (k := at_) (v := .int (x / many)) P1.cells (by unfold ixPut; simp [P.lt]) rfl
    simp only [hb, decide_true, fdiv_D _ _ _ hm hd, mod_D _ _ _ hm, R.then_ok, idx_loc P1.pot, i0, i1, at?_some, R.bind_ok, e3, List.getElem?_cons_succ, List.getElem?_cons_zero]
    refine ⟨x % many, _, fin_int s _ _ _ ?_, Int.emod_nonneg _ (by omega), Int.emod_lt_of_pos _ hm, ⟨cs.set at_ (x / many), at_, cnt + 1, seed, P.ne, ?_, ?_, by rw [List.length_set]; exact P.lt, fun y hy => ?_, P.s0, P.s1⟩, ?_, fun i h1 h2 => ?_⟩
    · simp
    · show ((s.ob.set p _).set c _)[p]? = _
      rw [List.getElem?_set_ne P.ne]
      exact List.getElem?_set_self lp
    · show ((s.ob.set p _).set c _)[c]? = _
      rw [List.getElem?_set_self (by simpa using lc), List.map_set]
    · rcases List.mem_or_eq_of_mem_set hy with h1 | h1
      · exact P.pos y h1
      · rw [h1]
        have : 0 ≤ x := by rw [← hx]; exact P.pos _ (List.getElem_mem _)
        exact Int.ediv_nonneg this (by omega)
    · simp
    · rw [List.getElem?_set_ne (Ne.symm h2), List.getElem?_set_ne (Ne.symm h1)]
  · have x0 : 0 ≤ x := by rw [← hx]; exact P.pos _ (List.getElem_mem _)
    have hlen : ∀ s', s'.ob[c]? = some (.lst (cs.map D.int)) → bltE .len false [.loc c] s' = .ok (.int (cs.length : Int)) s' := fun s' q => by
      unfold bltE dctOf seqOf view
      simp [q, Ob.unlk]
    have e3 := put_loc (i := 1) (k := 1) (v := .int (((at_ : Int) + 1) % (cs.length : Int))) P1.pot rfl rfl
    have hn : ((at_ : Int) + 1) % (cs.length : Int) = (((at_ + 1) % cs.length : Nat) : Int) := by simp
    rw [hn] at e3
    have P2 : PotAt ⟨(s.ob.set p (.lst [.loc c, .int at_, .int (cnt + 1), .int seed])).set p (.lst [.loc c, .int ((at_ + 1) % cs.length : Nat), .int (cnt + 1), .int seed]), s.ob.length, false⟩ p c cs ((at_ + 1) % cs.length) (cnt + 1) seed :=
      ⟨P.ne, List.getElem?_set_self (by simpa using lp), by rw [List.getElem?_set_ne P.ne.symm]; exact P1.cells, Nat.mod_lt _ (by have := P.lt; omega), P.pos, P.s0, P.s1⟩
    generalize hsd : (seed * 48271 + x % 2147483647 + (cnt + 1)) % 2147483647 = sd
    have e4 := put_loc (i := 3) (k := 3) (v := .int sd) P2.pot rfl rfl
    have mo : mulOk seed 48271 := mulOk_of (Nat.lt_of_lt_of_le (show seed.natAbs < 2 ^ 64 by have := P.s0; have := P.s1; omega) (Nat.pow_le_pow_right (by decide) (by decide))) (Nat.lt_of_lt_of_le (show (48271 : Int).natAbs < 2 ^ 64 by decide) (Nat.pow_le_pow_right (by decide) (by decide)))
    have P3 : PotAt ⟨((s.ob.set p (.lst [.loc c, .int at_, .int (cnt + 1), .int seed])).set p (.lst [.loc c, .int ((at_ + 1) % cs.length : Nat), .int (cnt + 1), .int seed])).set p (.lst [.loc c, .int ((at_ + 1) % cs.length : Nat), .int (cnt + 1), .int sd]), s.ob.length, false⟩ p c cs ((at_ + 1) % cs.length) (cnt + 1) sd :=
      ⟨P.ne, List.getElem?_set_self (by simpa using lp), by rw [List.getElem?_set_ne P.ne.symm]; exact P2.cells, P2.lt, P.pos, by rw [← hsd]; exact Int.emod_nonneg _ (by decide), by rw [← hsd]; exact Int.emod_lt_of_pos _ (by decide)⟩
    have j3 : ∀ (a b c : D) x, ixAt [a, b, c, D.int x] 3 = some (.int x) := fun _ _ _ _ => rfl
    have j2 : ∀ (a b c d : D), ixAt [a, b, c, d] 2 = some c := fun _ _ _ _ => rfl
    have j1 : ∀ (a b c d : D), ixAt [a, b, c, d] 1 = some b := fun _ _ _ _ => rfl
    have j0 : ∀ (a b c d : D), ixAt [a, b, c, d] 0 = some a := fun _ _ _ _ => rfl
    have lpos : (0 : Int) < (cs.length : Int) := by have := P.lt; omega
    simp only [hb, decide_false, R.then_ok, evSs, evEs, evE, idx_loc P1.pot, j0, j1, j2, j3, at?_some, R.bind_ok, List.getElem?_cons_succ, List.getElem?_cons_zero, add_D, hlen _ P1.cells, mod_D _ _ _ lpos, hn, e3, List.set_cons_succ, List.set_cons_zero,
      idx_loc P2.pot, mul_D _ _ _ mo, mod_D _ 2147483647 _ (by decide), hsd, e4, idx_loc P3.pot, fdiv_D _ 16 _ (by decide) (small_line (by decide)), mod_D _ _ _ hm]
    refine ⟨sd / 16 % many, _, fin_int s _ _ _ (by simp), Int.emod_nonneg _ (by omega), Int.emod_lt_of_pos _ hm, ⟨cs, _, cnt + 1, sd, P.ne, P3.pot, P3.cells, P3.lt, P3.pos, P3.s0, P3.s1⟩, by simp, fun i h1 h2 => by rw [List.getElem?_set_ne (Ne.symm h1), List.getElem?_set_ne (Ne.symm h1), List.getElem?_set_ne (Ne.symm h1)]⟩
theorem take_run (G : Pg) (h : G.fn "_law_take" = some fTake) (n : Nat) (p : Nat) (many : Int) (s : Sto) (hp : Pot s p) (hm : 0 < many) (hd : many.natAbs < divLine) :
    ∃ r ob, run G (n + 1) "_law_take" [.loc p, .int many] s = .ok (.int r) { s with ob := ob } ∧ 0 ≤ r ∧ r < many ∧ Pot { s with ob := ob } p ∧ ob.length = s.ob.length := by
  obtain ⟨c, cs, at_, cnt, seed, P⟩ := hp
  obtain ⟨r, ob, e1, e2, e3, ⟨cs', a', n', s', P'⟩, e5, _⟩ := take_fr G h n p c cs at_ cnt seed many s P hm hd
  exact ⟨r, ob, e1, e2, e3, ⟨c, cs', a', n', s', P'⟩, e5⟩
/-- a law's pot as the store's first objects -/
def PotP (p : Nat) (A : List Ob) : Prop := A.length = p + 1 ∧ ∃ c cs at_ cnt seed, c < p ∧ PotAt ⟨A, 0, false⟩ p c cs at_ cnt seed
theorem take_pot (G : Pg) (h : G.fn "_law_take" = some fTake) (n : Nat) (p : Nat) (many : Int) (A B : List Ob) (b : Nat) (e : Bool) (hp : PotP p A) (hm : 0 < many) (hd : many.natAbs < divLine) :
    ∃ r A', run G (n + 1) "_law_take" [.loc p, .int many] ⟨A ++ B, b, e⟩ = .ok (.int r) ⟨A' ++ B, b, e⟩ ∧ 0 ≤ r ∧ r < many ∧ PotP p A' := by
  obtain ⟨hl, c, cs, at_, cnt, seed, hc, P⟩ := hp
  have la : ∀ {i : Nat}, i ≤ p → (A ++ B)[i]? = A[i]? := fun h => List.getElem?_append_left (by omega)
  obtain ⟨r, ob, e1, e2, e3, ⟨cs', a', n', s', P'⟩, e5, e6⟩ := take_fr G h n p c cs at_ cnt seed many ⟨A ++ B, b, e⟩ ⟨P.ne, (la (Nat.le_refl _)).trans P.pot, (la (Nat.le_of_lt hc)).trans P.cells, P.lt, P.pos, P.s0, P.s1⟩ hm hd
  have e5 : ob.length = A.length + B.length := by rw [e5, List.length_append]
  have ho : ob = ob.take (p + 1) ++ B := by
    refine List.ext_getElem? fun i => ?_
    by_cases hi : i < p + 1
    · rw [List.getElem?_append_left (by rw [List.length_take]; omega), List.getElem?_take_of_lt hi]
    · have lt : (ob.take (p + 1)).length = p + 1 := by rw [List.length_take]; omega
      rw [List.getElem?_append_right (by rw [lt]; omega), lt, e6 i (by omega) (by omega)]
      show (A ++ B)[i]? = _
      rw [List.getElem?_append_right (by omega), hl]
  have lt : ∀ {i : Nat}, i ≤ p → (ob.take (p + 1))[i]? = ob[i]? := fun h => List.getElem?_take_of_lt (by omega)
  refine ⟨r, ob.take (p + 1), by rw [e1]; exact congrArg (fun z => R.ok (D.int r) (⟨z, b, e⟩ : Sto)) ho, e2, e3, by rw [List.length_take]; omega, c, cs', a', n', s', hc, P'.ne, (lt (Nat.le_refl _)).trans P'.pot, (lt (Nat.le_of_lt hc)).trans P'.cells, P'.lt, P'.pos, P'.s0, P'.s1⟩
end Fn

set_option linter.all false
set_option maxRecDepth 100000
set_option maxHeartbeats 1000000
namespace Fn
theorem idx_frz {s : Sto} {ds : List D} {i : Int} : idx (.frz (.lst ds)) (.int i) s = ixAt ds i := rfl
theorem idx_tup {s : Sto} {ds : List D} {i : Int} : idx (.tup ds) (.int i) s = ixAt ds i := rfl
theorem mk_frz {ds : List D} {s : Sto} (h : ds.length ≤ lenLine) : mkLst false ds s = .ok (.frz (.lst ds)) s := if_pos h
def fLess : Fd := ⟨2, 2, [
    .ret (some (.cmp .lt (.bin .mul (.idx (.var 0) (.cst (.int 0))) (.idx (.var 1) (.cst (.int 1)))) (.bin .mul (.idx (.var 1) (.cst (.int 0))) (.idx (.var 0) (.cst (.int 1))))))]⟩
theorem ix2 (a b : D) : ixAt [a, b] 0 = some a ∧ ixAt [a, b] 1 = some b := ⟨rfl, rfl⟩
theorem less_run (G : Pg) (h : G.fn "less" = some fLess) (n : Nat) (a b c d : Int) (s : Sto) (h1 : mulOk a d) (h2 : mulOk c b) : run G (n + 1) "less" [.tup [.int a, .int b], .tup [.int c, .int d]] s = .ok (.bl (decide (a * d < c * b))) s := by
  rw [run_eq G n _ _ h _ _ rfl (by decide)]
  rw [← fin_pure s _ [some (.tup [.int a, .int b]), some (.tup [.int c, .int d])] (by rfl)]
  congr 1
  have cl : ∀ (i j : Int) s, cmp .lt (.int i) (.int j) s = some (decide (i < j)) := fun _ _ _ => rfl
  simp only [fLess, evSs, evS, evE, List.map_cons, List.map_nil, List.cons_append, List.nil_append, List.getElem?_cons_succ, List.getElem?_cons_zero, R.bind_ok, R.then_ok, idx_tup, (ix2 _ _).1, (ix2 _ _).2, at?_some, mul_D _ _ _ h1, mul_D _ _ _ h2, cl, Option.map_some]
  rfl
def fSame : Fd := ⟨2, 4, [
    .ifs (.isN (.var 1)) [.ret (some (.isN (.var 0)))] [],
    .ifs (.blt (.isi [.bool]) false [.var 1]) [.ret (some (.and (.blt (.isi [.bool]) false [.var 0]) (.cmp .eq (.var 0) (.var 1))))] [],
    .ifs (.blt (.isi [.int]) false [.var 1]) [.ret (some (.and (.blt (.isi [.int]) false [.var 0]) (.and (.not (.blt (.isi [.bool]) false [.var 0])) (.cmp .eq (.var 0) (.var 1)))))] [],
    .ifs (.blt (.isi [.str]) false [.var 1]) [.ret (some (.and (.blt (.isi [.str]) false [.var 0]) (.cmp .eq (.var 0) (.var 1))))] [],
    .ifs (.blt (.isi [.list]) false [.var 1]) [.ifs (.or (.not (.blt (.isi [.list]) false [.var 0])) (.cmp .ne (.blt .len false [.var 0]) (.blt .len false [.var 1]))) [.ret (some (.cst (.bl false)))] []] [.ifs (.or (.not (.blt (.isi [.tuple]) false [.var 0])) (.cmp .ne (.blt .len false [.var 0]) (.blt .len false [.var 1]))) [.ret (some (.cst (.bl false)))] []],
    .ret (some (.blt .all false [.lc false [2, 3] (.tp [.nm 2, .nm 3]) (.zip (.var 0) (.var 1)) [] (.elt (.call "_law_same" [.var 2, .var 3] [] [] [.pos 0, .pos 1]))]))]⟩
theorem same_bl (G : Pg) (h : G.fn "_law_same" = some fSame) (n : Nat) (b : Bool) (s : Sto) : run G (n + 1) "_law_same" [.bl b, .bl b] s = .ok (.bl true) s := by
  rw [run_eq G n _ _ h _ _ rfl (by decide)]
  rw [← fin_pure s (.bl true) [some (.bl b), some (.bl b), none, none] (by rfl)]
  congr 1
  have i1 : ∀ s, bltE (.isi [.bool]) false [.bl b] s = .ok (.bl true) s := fun s => rfl
  have i2 : ∀ s, cmp .eq (.bl b) (.bl b) s = some true := fun s => by cases b <;> rfl
  simp only [fSame, evSs, evS, evE, evEs, List.map_cons, List.map_nil, List.cons_append, List.nil_append, List.getElem?_cons_succ, List.getElem?_cons_zero, R.bind_ok, R.then_ok, truth, i1, i2, at?_some, Option.map_some]
  rfl
def fPart : Fd := ⟨2, 3, [
    .ifs (.cmp .eq (.var 1) (.cst (.int 0))) [.nev] [],
    .ifs (.cmp .lt (.var 1) (.cst (.int 0))) [.mul [.nm 0, .nm 1] [.neg (.var 0), .neg (.var 1)]] [],
    .asg [.nm 2] (.call "common" [.var 0, .var 1] [] [] [.pos 0, .pos 1]),
    .ret (some (.tup [.bin .fdiv (.var 0) (.var 2), .bin .fdiv (.var 1) (.var 2)]))]⟩
theorem part_run (G : Pg) (h : G.fn "part" = some fPart) (hc : G.fn "common" = some fCommon) (n : Nat) (a b : Int) (s : Sto) (hb : 0 < b) (hf : b.natAbs < G.fuel) (hd : b.natAbs < divLine) :
    run G (n + 2) "part" [.int a, .int b] s = .ok (.tup [.int (a / Int.gcd a b), .int (b / Int.gcd a b)]) s := by
  have gp : 0 < Int.gcd a b := Int.gcd_pos_of_ne_zero_right _ (by omega)
  have gl : Int.gcd a b ≤ b.natAbs := Int.gcd_le_natAbs_right _ (by omega)
  rw [run_eq G (n + 1) _ _ h _ _ rfl (by decide)]
  rw [← fin_pure s _ [some (.int a), some (.int b), some (.int (Int.gcd a b))] (by rfl)]
  congr 1
  have e1 := common_run G hc n a b { s with base := s.ob.length, esc := false } hf
  have f1 : ∀ (x : Int) s, Fn.bin .fdiv (.int x) (.int (Int.gcd a b)) s = .ok (.int (x / (Int.gcd a b))) s := fun x s => fdiv_D _ _ _ (by omega) (by simp only [Int.natAbs_natCast]; omega)
  have c0 : ∀ s, cmp .eq (.int b) (.int 0) s = some false := fun s => by
    show (if dat 60 (D.int b) = true ∧ dat 60 (D.int 0) = true then some (decide (b = 0)) else none) = _
    rw [if_pos ⟨rfl, rfl⟩, decide_eq_false (by omega)]
  have c1 : ∀ s, cmp .lt (.int b) (.int 0) s = some false := fun s => by
    show some (decide (b < 0)) = _
    rw [decide_eq_false (by omega)]
  simp only [fPart, evSs, evS, evE, evEs, List.map_cons, List.map_nil, List.cons_append, List.nil_append, List.getElem?_cons_succ, List.getElem?_cons_zero, R.bind_ok, R.then_ok, c0, c1, asgTs, asgT, at?_some, srcs, Src.get, e1, Option.map_some, truth]
  simp [f1, evE, evEs]
def fAdd : Fd := ⟨2, 2, [
    .ret (some (.call "_law_low" [.bin .add (.bin .mul (.idx (.var 0) (.cst (.int 0))) (.idx (.var 1) (.cst (.int 1)))) (.bin .mul (.idx (.var 1) (.cst (.int 0))) (.idx (.var 0) (.cst (.int 1)))), .bin .mul (.idx (.var 0) (.cst (.int 1))) (.idx (.var 1) (.cst (.int 1)))] [] [] [.pos 0, .pos 1]))]⟩
/-- a part of bounded size -/
def PartB (k : Nat) (a b : Int) : Prop := a.natAbs ≤ k ∧ 0 < b ∧ b.natAbs ≤ k
theorem PartB.mulOk {k : Nat} {a b c d : Int} (h : PartB k a b) (h' : PartB k c d) (hk : k < 2 ^ 400000) : Fn.mulOk a d ∧ Fn.mulOk c b ∧ Fn.mulOk b d :=
  ⟨mulOk_of (Nat.lt_of_le_of_lt h.1 hk) (Nat.lt_of_le_of_lt h'.2.2 hk), mulOk_of (Nat.lt_of_le_of_lt h'.1 hk) (Nat.lt_of_le_of_lt h.2.2 hk), mulOk_of (Nat.lt_of_le_of_lt h.2.2 hk) (Nat.lt_of_le_of_lt h'.2.2 hk)⟩
end Fn

set_option linter.all false
set_option maxRecDepth 100000
set_option maxHeartbeats 1000000
namespace Fn
theorem fin_lf (s : Sto) (ob : List Ob) (d : D) (e : Env) (hd : d.lf = true) (h : ob.length = s.ob.length) : finR s (.ok (.ret d) e ⟨ob, s.ob.length, false⟩) = .ok d { s with ob := ob } := by
  show (if s.ob.length = s.ob.length then R.ok d (finB s d.lf _) else .no) = _
  rw [if_pos rfl]
  unfold finB
  rw [if_pos ⟨hd, rfl⟩, ← h]
  show R.ok _ { ob := ob.take ob.length, base := s.base, esc := s.esc } = _
  rw [List.take_length]
theorem PartB.low {k : Nat} {a b : Int} (h : PartB k a b) : PartB k (a / Int.gcd a b) (b / Int.gcd a b) := by
  have hb := h.2.1
  have gp : 0 < Int.gcd a b := Int.gcd_pos_of_ne_zero_right _ (by omega)
  refine ⟨Nat.le_trans (Int.natAbs_ediv_le_natAbs _ _) h.1, ?_, Nat.le_trans (Int.natAbs_ediv_le_natAbs _ _) h.2.2⟩
  exact Int.ediv_pos_of_pos_of_dvd hb (by omega) (Int.gcd_dvd_right ..)
theorem PartB.mono {k l : Nat} {a b : Int} (h : PartB k a b) (hl : k ≤ l) : PartB l a b := ⟨Nat.le_trans h.1 hl, h.2.1, Nat.le_trans h.2.2 hl⟩
theorem low_part (G : Pg) (h : G.fn "_law_low" = some fLow) (hg : G.fn "_law_gcd" = some fGcd) (n : Nat) (k : Nat) (a b : Int) (s : Sto) (hb : PartB k a b) (hf : k < G.fuel) (hd : k < divLine) :
    ∃ c d, run G (n + 2) "_law_low" [.int a, .int b] s = .ok (.tup [.int c, .int d]) s ∧ PartB k c d := by
  have := low_run G h hg n a b s hb.2.1 (Nat.lt_of_le_of_lt hb.2.2 hf) (Nat.lt_of_le_of_lt hb.2.2 hd)
  rw [Int.fdiv_eq_ediv_of_nonneg _ (by omega), Int.fdiv_eq_ediv_of_nonneg _ (by omega)] at this
  exact ⟨_, _, this, hb.low⟩
theorem add_run (G : Pg) (h : G.fn "_law_add" = some fAdd) (hl : G.fn "_law_low" = some fLow) (hg : G.fn "_law_gcd" = some fGcd) (n : Nat) (k : Nat) (a b c d : Int) (s : Sto) (h1 : PartB k a b) (h2 : PartB k c d) (hk : k < 2 ^ 400000) (hf : 2 * k * k < G.fuel) (hd : 2 * k * k < divLine) :
    ∃ e f, run G (n + 3) "_law_add" [.tup [.int a, .int b], .tup [.int c, .int d]] s = .ok (.tup [.int e, .int f]) s ∧ PartB (2 * k * k) e f := by
  have mo := h1.mulOk h2 hk
  have hp : PartB (2 * k * k) (a * d + c * b) (b * d) := by
    have q1 : (a * d).natAbs ≤ k * k := by rw [Int.natAbs_mul]; exact Nat.mul_le_mul h1.1 h2.2.2
    have q2 : (c * b).natAbs ≤ k * k := by rw [Int.natAbs_mul]; exact Nat.mul_le_mul h2.1 h1.2.2
    have q3 : (b * d).natAbs ≤ k * k := by rw [Int.natAbs_mul]; exact Nat.mul_le_mul h1.2.2 h2.2.2
    have e : 2 * k * k = k * k + k * k := by rw [Nat.mul_assoc]; omega
    refine ⟨?_, Int.mul_pos h1.2.1 h2.2.1, by omega⟩
    have := Int.natAbs_add_le (a * d) (c * b)
    omega
  rw [run_eq G (n + 2) _ _ h _ _ rfl (by decide)]
  obtain ⟨e, f, q1, q2⟩ := low_part G hl hg n _ _ _ { s with base := s.ob.length, esc := false } hp hf hd
  refine ⟨e, f, ?_, q2⟩
  rw [← fin_pure s (.tup [.int e, .int f]) [some (.tup [.int a, .int b]), some (.tup [.int c, .int d])] (by rfl)]
  congr 1
  simp only [fAdd, evSs, evS, evE, evEs, List.map_cons, List.map_nil, List.cons_append, List.nil_append, List.getElem?_cons_succ, List.getElem?_cons_zero, R.bind_ok, R.then_ok, idx_tup, (ix2 _ _).1, (ix2 _ _).2, at?_some, mul_D _ _ _ mo.1, mul_D _ _ _ mo.2.1, mul_D _ _ _ mo.2.2, add_D, srcs, Src.get, q1]
  rfl
def fAny : Fd := ⟨2, 4, [
    .asg [.nm 2] (.bin .add (.cst (.int 1)) (.call "_law_take" [.var 0, .idx (.lst false [.cst (.int 1), .cst (.int 4), .cst (.int 12), .cst (.int 1000003)]) (.call "_law_take" [.var 0, .cst (.int 4)] [] [] [.pos 0, .pos 1])] [] [] [.pos 0, .pos 1])),
    .asg [.nm 3] (.call "_law_take" [.var 0, .idx (.lst false [.cst (.int 2), .cst (.int 7), .cst (.int 30), .cst (.int 1000000007)]) (.call "_law_take" [.var 0, .cst (.int 4)] [] [] [.pos 0, .pos 1])] [] [] [.pos 0, .pos 1]),
    .ifs (.and (.cmp .lt (.var 1) (.cst (.int 0))) (.cmp .eq (.call "_law_take" [.var 0, .cst (.int 2)] [] [] [.pos 0, .pos 1]) (.cst (.int 0)))) [.asg [.nm 3] (.bin .sub (.cst (.int 0)) (.var 3))] [],
    .ifs (.cmp .gt (.var 1) (.cst (.int 0))) [.asg [.nm 3] (.bin .add (.var 3) (.cst (.int 1)))] [],
    .ret (some (.call "_law_low" [.var 3, .var 2] [] [] [.pos 0, .pos 1]))]⟩
theorem pick4 (a b c d : Int) {r : Int} (h0 : 0 ≤ r) (h1 : r < 4) (m : Int) (ha : 0 < a ∧ a ≤ m) (hb : 0 < b ∧ b ≤ m) (hc : 0 < c ∧ c ≤ m) (hd : 0 < d ∧ d ≤ m) : ∃ v, ixAt [D.int a, .int b, .int c, .int d] r = some (.int v) ∧ 0 < v ∧ v ≤ m := by
  have : r = 0 ∨ r = 1 ∨ r = 2 ∨ r = 3 := by omega
  rcases this with rfl | rfl | rfl | rfl
  · exact ⟨a, rfl, ha⟩
  · exact ⟨b, rfl, hb⟩
  · exact ⟨c, rfl, hc⟩
  · exact ⟨d, rfl, hd⟩
theorem Pot.ob {s t : Sto} {p : Nat} (h : Pot s p) (e : t.ob = s.ob) : Pot t p := by
  obtain ⟨c, cs, at_, cnt, seed, P⟩ := h
  exact ⟨c, cs, at_, cnt, seed, P.ne, by rw [e]; exact P.pot, by rw [e]; exact P.cells, P.lt, P.pos, P.s0, P.s1⟩
theorem any_run (G : Pg) (h : G.fn "_law_any_part" = some fAny) (ht : G.fn "_law_take" = some fTake) (hl : G.fn "_law_low" = some fLow) (hg : G.fn "_law_gcd" = some fGcd) (n : Nat) (p : Nat) (s : Sto) (hp : Pot s p) (hf : 2000000000 < G.fuel) :
    ∃ a b ob, run G (n + 3) "_law_any_part" [.loc p, .int (-1)] s = .ok (.tup [.int a, .int b]) { s with ob := ob } ∧ PartB 2000000000 a b ∧ Pot { s with ob := ob } p ∧ ob.length = s.ob.length := by
  rw [run_eq G (n + 2) _ _ h _ _ rfl (by decide)]
  have sl : ∀ {k : Int}, 0 < k → k ≤ 2000000000 → k.natAbs < divLine := fun h0 h1 => small_line (by omega)
  obtain ⟨r1, ob1, t1, a1, b1, p1, l1⟩ := take_run G ht (n + 1) p 4 ⟨s.ob, s.ob.length, false⟩ (hp.ob rfl) (by decide) (sl (by decide) (by decide))
  obtain ⟨m1, x1, y1, z1⟩ := pick4 1 4 12 1000003 a1 b1 1000003 (by decide) (by decide) (by decide) (by decide)
  obtain ⟨r2, ob2, t2, a2, b2, p2, l2⟩ := take_run G ht (n + 1) p m1 ⟨ob1, s.ob.length, false⟩ p1 y1 (sl y1 (by omega))
  obtain ⟨r3, ob3, t3, a3, b3, p3, l3⟩ := take_run G ht (n + 1) p 4 ⟨ob2, s.ob.length, false⟩ p2 (by decide) (sl (by decide) (by decide))
  obtain ⟨m2, x2, y2, z2⟩ := pick4 2 7 30 1000000007 a3 b3 1000000007 (by decide) (by decide) (by decide) (by decide)
  obtain ⟨r4, ob4, t4, a4, b4, p4, l4⟩ := take_run G ht (n + 1) p m2 ⟨ob3, s.ob.length, false⟩ p3 y2 (sl y2 (by omega))
  obtain ⟨r5, ob5, t5, a5, b5, p5, l5⟩ := take_run G ht (n + 1) p 2 ⟨ob4, s.ob.length, false⟩ p4 (by decide) (sl (by decide) (by decide))
  dsimp only at l1 l2 l3 l4 l5
  have c0 : ∀ s, cmp .lt (.int (-1)) (.int 0) s = some true := fun _ => rfl
  have c1 : ∀ s, cmp .gt (.int (-1)) (.int 0) s = some false := fun _ => rfl
  have ce : ∀ s, cmp .eq (.int r5) (.int 0) s = some (decide (r5 = 0)) := fun s => by
    show (if dat 60 (D.int r5) = true ∧ dat 60 (D.int 0) = true then some (decide (r5 = 0)) else none) = _
    rw [if_pos ⟨rfl, rfl⟩]
  have mk4 : ∀ (a b c d : Int) s, mkLst false [D.int a, .int b, .int c, .int d] s = .ok (.frz (.lst [D.int a, .int b, .int c, .int d])) s := fun a b c d s => if_pos (by show 4 ≤ 16777216; decide)
  have rp : (List.replicate (4 - 2) (none : Option D)) = [none, none] := rfl
  have key : ∀ o : Int, o.natAbs ≤ 1000000007 → PartB 2000000000 o (1 + r2) := fun o ho => ⟨by omega, by omega, by omega⟩
  by_cases hz : r5 = 0
  · obtain ⟨c, d, q1, q2⟩ := low_part G hl hg n _ _ _ ⟨ob5, s.ob.length, false⟩ (key (0 - r4) (by omega)) hf (small_line (by decide))
    refine ⟨c, d, ob5, ?_, q2, p5.ob rfl, by omega⟩
    have ce' : ∀ s, cmp .eq (.int r5) (.int 0) s = some true := fun s => by rw [ce, decide_eq_true hz]
    simp only [fAny, evSs, evS, evE, evEs, List.map_cons, List.map_nil, List.cons_append, List.nil_append, List.getElem?_cons_succ, List.getElem?_cons_zero, R.bind_ok, R.then_ok, srcs, Src.get, mk4, t1, t2, t3, t4, t5, idx_frz, x1, x2, at?_some, asgTs, asgT, add_D, sub_D, c0, c1, ce', Option.map_some, truth, rp, List.set_cons_succ, List.set_cons_zero, q1]
    exact fin_lf s ob5 (.tup [.int c, .int d]) _ (by rfl) (by omega)
  · obtain ⟨c, d, q1, q2⟩ := low_part G hl hg n _ _ _ ⟨ob5, s.ob.length, false⟩ (key r4 (by omega)) hf (small_line (by decide))
    refine ⟨c, d, ob5, ?_, q2, p5.ob rfl, by omega⟩
    have ce' : ∀ s, cmp .eq (.int r5) (.int 0) s = some false := fun s => by rw [ce, decide_eq_false hz]
    simp only [fAny, evSs, evS, evE, evEs, List.map_cons, List.map_nil, List.cons_append, List.nil_append, List.getElem?_cons_succ, List.getElem?_cons_zero, R.bind_ok, R.then_ok, srcs, Src.get, mk4, t1, t2, t3, t4, t5, idx_frz, x1, x2, at?_some, asgTs, asgT, add_D, sub_D, c0, c1, ce', Option.map_some, truth, rp, List.set_cons_succ, List.set_cons_zero, q1]
    exact fin_lf s ob5 (.tup [.int c, .int d]) _ (by rfl) (by omega)
end Fn

set_option linter.all false
set_option maxRecDepth 100000
set_option maxHeartbeats 1000000
namespace Fn
def fPot : Fd := ⟨1, 3, [
    .asg [.nm 1] (.lc true [2] (.nm 2) (.it (.slc false (.var 0) none (some (.cst (.int 63))))) [] (.elt (.blt .abs false [.var 2]))),
    .ifs (.not (.var 1)) [.asg [.nm 1] (.lst true [.cst (.int 0)])] [],
    .ret (some (.lst true [.var 1, .cst (.int 0), .cst (.int 0), .cst (.int 7)]))]⟩
theorem lcL_map {α : Type} (f : D → Sto → R (List D)) (g : α → D) (h : α → D) (s : Sto) (hf : ∀ a, f (g a) s = .ok [h a] s) : ∀ l : List α, lcL f (l.map g) s = .ok (l.map h) s
  | [] => rfl
  | a :: l => by
    show (f (g a) s).bind (fun xs s => (lcL f (l.map g) s).bind fun ys s => .ok (xs ++ ys) s) = _
    rw [hf]
    simp only [R.bind_ok]
    rw [lcL_map f g h s hf l]
    rfl
theorem truth_bl (b : Bool) (s : Sto) : truth (.bl b) s = some b := rfl
theorem pot_fr (G : Pg) (h : G.fn "_law_pot" = some fPot) (n : Nat) (ns : List Int) (s : Sto) (hl : ns.length ≤ 63) :
    ∃ p ob, run G (n + 1) "_law_pot" [.klst (ns.map D.int)] s = .ok (.loc p) { s with ob := ob } ∧ ob.length = p + 1 ∧ ∃ c cs at_ cnt seed, c < p ∧ PotAt { s with ob := ob } p c cs at_ cnt seed := by
  rw [run_eq G n _ _ h _ _ rfl (by decide)]
  have cut : cutL (ns.map D.int) none (some 63) = ns.map D.int := by
    have hc : cutAt (ns.map D.int).length 63 = ns.length := by
      unfold cutAt
      rw [List.length_map, if_neg (by decide)]
      exact Nat.min_eq_right hl
    show ((ns.map D.int).drop 0).take (cutAt (ns.map D.int).length 63 - 0) = _
    rw [hc, List.drop_zero, Nat.sub_zero]
    exact List.take_of_length_le (by rw [List.length_map]; exact Nat.le_refl _)
  have e1 : ∀ s, slc false (.klst (ns.map D.int)) none (some 63) s = .ok (.frz (.lst (ns.map D.int))) s := fun s => by
    show mkOb false (.lst (cutL (ns.map D.int) none (some 63))) s = _
    rw [cut]
    rfl
  have e2 : ∀ s, itemsI (.frz (.lst (ns.map D.int))) s = some (ns.map D.int) := fun _ => rfl
  have e4 : ∀ (f : D → Sto → R (List D)) s, (∀ a : Int, f (.int a) s = .ok [.int (a.natAbs : Int)] s) → lcL f (ns.map D.int) s = .ok (ns.map fun a => .int (a.natAbs : Int)) s := fun f s hf => lcL_map f D.int (fun a => .int (a.natAbs : Int)) s hf ns
  have cl : (ns.map fun a => D.int (a.natAbs : Int)).length ≤ lenLine := by rw [List.length_map]; exact Nat.le_trans hl (by decide)
  have w : ∀ (s : Sto), (evE ⟨run G n, G.fuel, none, G.sub⟩ (.lc true [2] (.nm 2) (.it (.slc false (.var 0) none (some (.cst (.int 63))))) [] (.elt (.blt .abs false [.var 2]))) [some (.klst (ns.map D.int)), none, none] s) = .ok (.loc s.ob.length) { s with ob := s.ob ++ [.lst (ns.map fun a => .int (a.natAbs : Int))] } := fun s => by
    show (((evI _ (.it (.slc false (.var 0) none (some (.cst (.int 63))))) [some (.klst (ns.map D.int)), none, none] s).bind fun p s => _)) = _
    have ei : evI ⟨run G n, G.fuel, none, G.sub⟩ (.it (.slc false (.var 0) none (some (.cst (.int 63))))) [some (.klst (ns.map D.int)), none, none] s = .ok (ns.map D.int, []) s := by
      simp only [evI, evE, evO, List.getElem?_cons_zero, R.bind_ok, e1, e2]
      rfl
    rw [ei]
    simp only [R.bind_ok, lockAll]
    rw [e4 _ s (fun a => by
      simp only [bindT, wipe, List.set_cons_succ, List.set_cons_zero, evTs, R.bind_ok, if_true, evC, evE, evEs, List.getElem?_cons_succ, List.getElem?_cons_zero, absD])]
    simp only [R.nox_ok, R.bind_ok, cl, if_true, unlockAll]
    rfl
  have rp : (List.replicate (3 - 1) (none : Option D)) = [none, none] := rfl
  have pos : ∀ x ∈ ns.map (fun a => (a.natAbs : Int)), 0 ≤ x := fun x hx => by
    obtain ⟨a, _, rfl⟩ := List.mem_map.mp hx
    omega
  have fin : ∀ (q c : Nat) (ob : List Ob) e, finR s (.ok (.ret (.loc q)) e ⟨ob, s.ob.length, false⟩) = .ok (.loc q) { s with ob := ob } := fun q c ob e => by
    show (if s.ob.length = s.ob.length then R.ok (D.loc q) (finB s false _) else .no) = _
    rw [if_pos rfl]
    unfold finB
    rw [if_neg (by rintro ⟨h, _⟩; cases h)]
    simp
  have mkt : ∀ (ds : List D) s, ds.length ≤ 1000 → mkLst true ds s = .ok (.loc s.ob.length) { s with ob := s.ob ++ [.lst ds] } := fun ds s hd => by
    unfold mkLst
    rw [if_pos (Nat.le_trans hd (by decide))]
    rfl
  have tr : ∀ (s : Sto) (l : Nat) (ds : List D), s.ob[l]? = some (.lst ds) → truth (.loc l) s = some (!ds.isEmpty) := fun s l ds q => by
    unfold truth seqOf view
    simp [q, Ob.unlk]
  by_cases he : ns = []
  · subst he
    simp only [List.map_nil] at w
    have t1 := tr { s with ob := s.ob ++ [.lst []], base := s.ob.length, esc := false } s.ob.length [] (by simp)
    refine ⟨s.ob.length + 2, s.ob ++ [.lst []] ++ [.lst [.int 0]] ++ [.lst [.loc (s.ob.length + 1), .int 0, .int 0, .int 7]], ?_, by simp, s.ob.length + 1, [0], 0, 0, 7, by omega, by omega, ?_, ?_, by decide, fun x hx => by simp at hx; omega, by decide, by decide⟩
    · simp only [fPot, evSs, evS, w, R.then_ok, asgTs, asgT, at?_some, List.map_cons, List.map_nil, List.cons_append, List.nil_append, rp, R.bind_ok, List.set_cons_succ, List.set_cons_zero]
      simp only [evE, evEs, List.getElem?_cons_succ, List.getElem?_cons_zero, R.bind_ok, t1, Option.map_some, at?_some, R.then_ok, truth_bl, List.isEmpty_nil, Bool.not_true, Bool.not_false, mkt _ _ (show ([D.int 0] : List D).length ≤ 1000 by decide), asgTs, asgT, List.set_cons_succ, List.set_cons_zero]
      rw [mkt _ _ (by simp)]
      simp only [R.bind_ok, R.then_ok]
      rw [fin _ 0]
      simp
    · simp
    · simp
  · have t1 := tr { s with ob := s.ob ++ [.lst (ns.map fun a => .int (a.natAbs : Int))], base := s.ob.length, esc := false } s.ob.length (ns.map fun a => .int (a.natAbs : Int)) (by simp)
    have em : (ns.map fun a => D.int (a.natAbs : Int)).isEmpty = false := by cases ns with | nil => exact absurd rfl he | cons _ _ => rfl
    rw [em] at t1
    refine ⟨s.ob.length + 1, s.ob ++ [.lst (ns.map fun a => .int (a.natAbs : Int))] ++ [.lst [.loc s.ob.length, .int 0, .int 0, .int 7]], ?_, by simp, s.ob.length, ns.map (fun a => (a.natAbs : Int)), 0, 0, 7, by omega, by omega, ?_, ?_, ?_, pos, by decide, by decide⟩
    · simp only [fPot, evSs, evS, w, R.then_ok, asgTs, asgT, at?_some, List.map_cons, List.map_nil, List.cons_append, List.nil_append, rp, R.bind_ok, List.set_cons_succ, List.set_cons_zero]
      simp only [evE, evEs, List.getElem?_cons_succ, List.getElem?_cons_zero, R.bind_ok, t1, Option.map_some, at?_some, R.then_ok, truth_bl, Bool.not_true, Bool.not_false]
      rw [mkt _ _ (by simp)]
      simp only [R.bind_ok, R.then_ok]
      rw [fin _ 0]
      simp
    · simp
    · simp
    · cases ns with
      | nil => exact absurd rfl he
      | cons _ _ => simp
theorem pot_run (G : Pg) (h : G.fn "_law_pot" = some fPot) (n : Nat) (ns : List Int) (s : Sto) (hl : ns.length ≤ 63) :
    ∃ p ob, run G (n + 1) "_law_pot" [.klst (ns.map D.int)] s = .ok (.loc p) { s with ob := ob } ∧ Pot { s with ob := ob } p := by
  obtain ⟨p, ob, e1, _, c, cs, a, k, d, _, P⟩ := pot_fr G h n ns s hl
  exact ⟨p, ob, e1, c, cs, a, k, d, P⟩
theorem pot_pot (G : Pg) (h : G.fn "_law_pot" = some fPot) (n : Nat) (ns : List Int) (hl : ns.length ≤ 63) :
    ∃ p A, run G (n + 1) "_law_pot" [.klst (ns.map D.int)] ⟨[], 0, false⟩ = .ok (.loc p) ⟨A, 0, false⟩ ∧ PotP p A := by
  obtain ⟨p, ob, e1, e2, c, cs, a, k, d, hc, P⟩ := pot_fr G h n ns ⟨[], 0, false⟩ hl
  exact ⟨p, ob, e1, e2, c, cs, a, k, d, hc, P⟩
end Fn

set_option linter.all false
set_option maxRecDepth 100000
set_option maxHeartbeats 1000000
namespace Fn
theorem lcL_true (f : D → Sto → R (List D)) : ∀ (l : List D) (s : Sto), (∀ d ∈ l, ∀ s, f d s = .ok [.bl true] s) → lcL f l s = .ok (l.map fun _ => .bl true) s
  | [], s, _ => rfl
  | d :: l, s, h => by
    show (f d s).bind (fun xs s => (lcL f l s).bind fun ys s => .ok (xs ++ ys) s) = _
    rw [h d List.mem_cons_self]
    simp only [R.bind_ok]
    rw [lcL_true f l s fun d hd => h d (List.mem_cons_of_mem _ hd)]
    rfl
theorem same_int (G : Pg) (h : G.fn "_law_same" = some fSame) (n : Nat) (b : Int) (s : Sto) : run G (n + 1) "_law_same" [.int b, .int b] s = .ok (.bl true) s := by
  rw [run_eq G n _ _ h _ _ rfl (by decide)]
  rw [← fin_pure s (.bl true) [some (.int b), some (.int b), none, none] (by rfl)]
  congr 1
  have i1 : ∀ s, bltE (.isi [.bool]) false [.int b] s = .ok (.bl false) s := fun s => rfl
  have i2 : ∀ s, bltE (.isi [.int]) false [.int b] s = .ok (.bl true) s := fun s => rfl
  have i3 : ∀ s, cmp .eq (.int b) (.int b) s = some true := fun s => by
    show (if dat 60 (D.int b) = true ∧ dat 60 (D.int b) = true then some (decide (b = b)) else none) = _
    rw [if_pos ⟨rfl, rfl⟩, decide_eq_true rfl]
  simp only [fSame, evSs, evS, evE, evEs, List.map_cons, List.map_nil, List.cons_append, List.nil_append, List.getElem?_cons_succ, List.getElem?_cons_zero, R.bind_ok, R.then_ok, truth, i1, i2, i3, at?_some, Option.map_some, Bool.not_false, Bool.not_true]
  rfl
theorem same_tup (G : Pg) (h : G.fn "_law_same" = some fSame) (n : Nat) (ds es : List D) (s : Sto) (hl : ds.length = es.length) (hk : ds.length ≤ 1000) (he : ∀ p ∈ ds.zip es, ∀ s, run G (n + 1) "_law_same" [p.1, p.2] s = .ok (.bl true) s) :
    run G (n + 2) "_law_same" [.tup ds, .tup es] s = .ok (.bl true) s := by
  rw [run_eq G (n + 1) _ _ h _ _ rfl (by decide)]
  rw [← fin_pure s (.bl true) [some (.tup ds), some (.tup es), none, none] (by rfl)]
  congr 1
  have i1 : ∀ (es : List D) s, bltE (.isi [.bool]) false [.tup es] s = .ok (.bl false) s := fun es s => rfl
  have i2 : ∀ (es : List D) s, bltE (.isi [.int]) false [.tup es] s = .ok (.bl false) s := fun es s => rfl
  have i3 : ∀ (es : List D) s, bltE (.isi [.str]) false [.tup es] s = .ok (.bl false) s := fun es s => rfl
  have i4 : ∀ (es : List D) s, bltE (.isi [.list]) false [.tup es] s = .ok (.bl false) s := fun es s => rfl
  have i5 : ∀ (es : List D) s, bltE (.isi [.tuple]) false [.tup es] s = .ok (.bl true) s := fun es s => rfl
  have i6 : ∀ (es : List D) s, bltE .len false [.tup es] s = .ok (.int es.length) s := fun es s => rfl
  have i7 : ∀ s, cmp .ne (.int ds.length) (.int es.length) s = some false := fun s => by
    show (if dat 60 (D.int ds.length) = true ∧ dat 60 (D.int es.length) = true then some (!decide ((ds.length : Int) = es.length)) else none) = _
    rw [if_pos ⟨rfl, rfl⟩, decide_eq_true (by rw [hl])]
    rfl
  have rp : (List.replicate (4 - 2) (none : Option D)) = [none, none] := rfl
  have z : ∀ (env : Env) s, evE ⟨run G (n + 1), G.fuel, none, G.sub⟩ (.lc false [2, 3] (.tp [.nm 2, .nm 3]) (.zip (.var 0) (.var 1)) [] (.elt (.call "_law_same" [.var 2, .var 3] [] [] [.pos 0, .pos 1]))) [some (.tup ds), some (.tup es), none, none] s = .ok (.frz (.lst ((ds.zip es).map fun _ => .bl true))) s := fun env s => by
    have e2 : evI ⟨run G (n + 1), G.fuel, none, G.sub⟩ (.zip (.var 0) (.var 1)) [some (.tup ds), some (.tup es), none, none] s = .ok (((ds.zip es).map fun p => .tup [p.1, p.2]), []) s := by
      simp only [evI, evE, List.getElem?_cons_succ, List.getElem?_cons_zero, R.bind_ok, at?_some]
      rfl
    show (evI _ _ _ s).bind _ = _
    rw [e2]
    simp only [R.bind_ok, lockAll]
    rw [lcL_true _ _ s (fun d hd s => by
      obtain ⟨p, hp, rfl⟩ := List.mem_map.mp hd
      have e1 : bindT 3 (.tp [.nm 2, .nm 3]) (.tup [p.1, p.2]) s (wipe [some (.tup ds), some (.tup es), none, none] [2, 3]) = some [some (.tup ds), some (.tup es), some p.1, some p.2] := rfl
      simp only [e1, evTs, R.bind_ok, if_true, evC, evE, evEs, List.getElem?_cons_succ, List.getElem?_cons_zero, at?_some, srcs, Src.get, he p hp])]
    have ln : ((((ds.zip es).map fun p => D.tup [p.1, p.2]).map fun _ => D.bl true)).length ≤ lenLine := by
      simp only [List.length_map, List.length_zip]
      exact Nat.le_trans (Nat.min_le_left _ _) (Nat.le_trans hk (by decide))
    simp only [R.nox_ok, R.bind_ok]
    rw [if_pos ln, List.map_map]
    rfl
  have al : ∀ s, bltE .all false [.frz (.lst ((ds.zip es).map fun _ => .bl true))] s = .ok (.bl true) s := fun s => by
    have : ∀ l : List (D × D), boolsOf (l.map fun _ => D.bl true) = some (l.map fun _ => true) := fun l => by
      induction l with
      | nil => rfl
      | cons a l ih => simp [boolsOf, ih]
    show (match boolsOf ((ds.zip es).map fun _ => .bl true) with | some bs => R.ok (D.bl (bs.all id)) s | none => .no) = _
    rw [this]
    simp
  simp only [fSame, evSs, evS, List.map_cons, List.map_nil, List.cons_append, List.nil_append, rp]
  simp only [evE, evEs, List.getElem?_cons_succ, List.getElem?_cons_zero, R.bind_ok, R.then_ok, truth_bl, i1, i2, i3, i4, i5, i6, i7, at?_some, Option.map_some, Bool.not_false, Bool.not_true]
  have z' := z []
  simp only [evE] at z'
  simp only [z', R.bind_ok, al, R.then_ok]
end Fn

set_option linter.all false
set_option maxRecDepth 100000
set_option maxHeartbeats 1000000
namespace Fn
/-- part, nought below refused -/
def fPartR : Fd := ⟨2, 3, [
    .ifs (.cmp .eq (.var 1) (.cst (.int 0))) [.raise "NoPart" [] [.cst (.str [110, 111, 117, 103, 104, 116, 32, 98, 101, 108, 111, 119])]] [],
    .ifs (.cmp .lt (.var 1) (.cst (.int 0))) [.mul [.nm 0, .nm 1] [.neg (.var 0), .neg (.var 1)]] [],
    .asg [.nm 2] (.call "common" [.var 0, .var 1] [] [] [.pos 0, .pos 1]),
    .ret (some (.tup [.bin .fdiv (.var 0) (.var 2), .bin .fdiv (.var 1) (.var 2)]))]⟩
theorem eq0 (b : Int) (s : Sto) : cmp .eq (.int b) (.int 0) s = some (decide (b = 0)) := by
  show (if dat 60 (D.int b) = true ∧ dat 60 (D.int 0) = true then some (decide (b = 0)) else none) = _
  rw [if_pos ⟨rfl, rfl⟩]
theorem eqI (a b : Int) (s : Sto) : cmp .eq (.int a) (.int b) s = some (decide (a = b)) := by
  show (if dat 60 (D.int a) = true ∧ dat 60 (D.int b) = true then some (decide (a = b)) else none) = _
  rw [if_pos ⟨rfl, rfl⟩]
theorem neI (a b : Int) (s : Sto) : cmp .ne (.int a) (.int b) s = some (!decide (a = b)) := by
  show (if dat 60 (D.int a) = true ∧ dat 60 (D.int b) = true then some (!decide (a = b)) else none) = _
  rw [if_pos ⟨rfl, rfl⟩]
theorem lt0 (b : Int) (s : Sto) : cmp .lt (.int b) (.int 0) s = some (decide (b < 0)) := rfl
theorem neg0_D (C : Ctx) (a : Int) (env : Env) (s : Sto) : evE C (.neg (.var 0)) (some (.int a) :: env) s = .ok (.int (-a)) s := rfl
theorem neg1_D (C : Ctx) (x : Option D) (a : Int) (env : Env) (s : Sto) : evE C (.neg (.var 1)) (x :: some (.int a) :: env) s = .ok (.int (-a)) s := rfl
/-- part's answer -/
def pOver (a b : Int) : Int := (if b < 0 then -a else a) / (Int.gcd a b : Int)
def pUnder (a b : Int) : Int := (if b < 0 then -b else b) / (Int.gcd a b : Int)
theorem partR_run (G : Pg) (h : G.fn "part" = some fPartR) (hc : G.fn "common" = some fCommon) (n : Nat) (a b : Int) (s : Sto) (hb : b ≠ 0) (hf : b.natAbs < G.fuel) (hd : b.natAbs < divLine) :
    run G (n + 2) "part" [.int a, .int b] s = .ok (.tup [.int (pOver a b), .int (pUnder a b)]) s := by
  have gp : 0 < Int.gcd a b := Int.gcd_pos_of_ne_zero_right _ hb
  have gl : Int.gcd a b ≤ b.natAbs := Int.gcd_le_natAbs_right _ hb
  rw [run_eq G (n + 1) _ _ h _ _ rfl (by decide)]
  have f1 : ∀ (x : Int) s, Fn.bin .fdiv (.int x) (.int (Int.gcd a b)) s = .ok (.int (x / (Int.gcd a b))) s := fun x s => fdiv_D _ _ _ (by omega) (by simp only [Int.natAbs_natCast]; omega)
  have rp : (List.replicate (3 - 2) (none : Option D)) = [none] := rfl
  have d0 : decide (b = 0) = false := decide_eq_false hb
  by_cases hn : b < 0
  · have e1 := common_run G hc n (-a) (-b) { s with base := s.ob.length, esc := false } (by omega)
    rw [Int.neg_gcd, Int.gcd_neg] at e1
    have d1 : decide (b < 0) = true := decide_eq_true hn
    have po : pOver a b = -a / (Int.gcd a b : Int) := by unfold pOver; rw [if_pos hn]
    have pu : pUnder a b = -b / (Int.gcd a b : Int) := by unfold pUnder; rw [if_pos hn]
    rw [← fin_pure s _ [some (.int (-a)), some (.int (-b)), some (.int (Int.gcd a b))] (by rfl)]
    congr 1
    simp only [fPartR, evSs, evS, evEs, List.map_cons, List.map_nil, List.cons_append, List.nil_append, rp, eq0, lt0, neg0_D, neg1_D]
    simp only [evE, evEs, List.getElem?_cons_succ, List.getElem?_cons_zero, R.bind_ok, R.then_ok, eq0, lt0, d0, d1, asgTs, asgT, at?_some, bindNames, srcs, Src.get, e1, Option.map_some, truth, List.set_cons_succ, List.set_cons_zero, f1, po, pu, evSs]
  · have e1 := common_run G hc n a b { s with base := s.ob.length, esc := false } hf
    have d1 : decide (b < 0) = false := decide_eq_false hn
    have po : pOver a b = a / (Int.gcd a b : Int) := by unfold pOver; rw [if_neg hn]
    have pu : pUnder a b = b / (Int.gcd a b : Int) := by unfold pUnder; rw [if_neg hn]
    rw [← fin_pure s _ [some (.int a), some (.int b), some (.int (Int.gcd a b))] (by rfl)]
    congr 1
    simp only [fPartR, evSs, evS, evEs, List.map_cons, List.map_nil, List.cons_append, List.nil_append, rp, eq0, lt0]
    simp only [evE, evEs, List.getElem?_cons_succ, List.getElem?_cons_zero, R.bind_ok, R.then_ok, eq0, lt0, d0, d1, asgTs, asgT, at?_some, bindNames, srcs, Src.get, e1, Option.map_some, truth, List.set_cons_succ, List.set_cons_zero, f1, po, pu, evSs]
theorem partR_ex (G : Pg) (h : G.fn "part" = some fPartR) (n : Nat) (a : Int) (s : Sto) : run G (n + 1) "part" [.int a, .int 0] s = .ex ⟨"NoPart", []⟩ s := by
  rw [run_eq G n _ _ h _ _ rfl (by decide)]
  have : evSs ⟨run G n, G.fuel, none, G.sub⟩ fPartR.body ([D.int a, D.int 0].map some ++ List.replicate (fPartR.ns - fPartR.np) none) { s with base := s.ob.length, esc := false } = .ex ⟨"NoPart", []⟩ [some (.int a), some (.int 0), none] { s with base := s.ob.length, esc := false } := by
    simp only [fPartR, evSs, evS, evE, evEs, List.map_cons, List.map_nil, List.cons_append, List.nil_append, List.getElem?_cons_succ, List.getElem?_cons_zero, R.bind_ok, R.then_ok, eq0, Option.map_some, at?_some, truth]
    rfl
  rw [this]
  show (if s.ob.length = s.ob.length then R.ex (⟨"NoPart", []⟩ : Xn) (finB s true _) else .no) = _
  rw [if_pos rfl]
  unfold finB
  rw [if_pos ⟨rfl, rfl⟩]
  show R.ex _ { ob := s.ob.take s.ob.length, base := s.base, esc := s.esc } = _
  rw [List.take_length]
theorem p_facts (a b : Int) (hb : b ≠ 0) : 0 < pUnder a b ∧ Int.gcd (pOver a b) (pUnder a b) = 1 ∧ pOver a b * b = a * pUnder a b ∧ (pUnder a b).natAbs ≤ b.natAbs ∧ (pOver a b).natAbs ≤ a.natAbs := by
  have gp : 0 < Int.gcd a b := Int.gcd_pos_of_ne_zero_right _ hb
  have da : (Int.gcd a b : Int) ∣ a := Int.gcd_dvd_left ..
  have db : (Int.gcd a b : Int) ∣ b := Int.gcd_dvd_right ..
  have g0 : (Int.gcd a b : Int) ≠ 0 := by omega
  have key : ∀ x y : Int, 0 < y → Int.gcd x y = Int.gcd a b → (Int.gcd a b : Int) ∣ x → (Int.gcd a b : Int) ∣ y → 0 < y / (Int.gcd a b : Int) ∧ Int.gcd (x / (Int.gcd a b : Int)) (y / (Int.gcd a b : Int)) = 1 := fun x y hy hg dx dy => by
    refine ⟨Int.ediv_pos_of_pos_of_dvd hy (by omega) dy, ?_⟩
    rw [← hg]
    exact Int.gcd_ediv_gcd_ediv_gcd (by rw [hg]; exact gp)
  unfold pOver pUnder
  by_cases hn : b < 0
  · rw [if_pos hn, if_pos hn]
    obtain ⟨k1, k2⟩ := key (-a) (-b) (by omega) (by rw [Int.neg_gcd, Int.gcd_neg]) (Int.dvd_neg.mpr da) (Int.dvd_neg.mpr db)
    refine ⟨k1, k2, ?_, ?_, ?_⟩
    · obtain ⟨x, hx⟩ := da
      obtain ⟨y, hy⟩ := db
      generalize (Int.gcd a b : Int) = g at *
      subst hx hy
      rw [show -(g * x) = g * (-x) by rw [Int.mul_neg], show -(g * y) = g * (-y) by rw [Int.mul_neg], Int.mul_ediv_cancel_left _ g0, Int.mul_ediv_cancel_left _ g0]
      rw [Int.neg_mul, Int.mul_neg, Int.mul_left_comm, Int.mul_assoc]
    · have := Int.natAbs_ediv_le_natAbs (-b) (Int.gcd a b : Int); rwa [Int.natAbs_neg] at this
    · have := Int.natAbs_ediv_le_natAbs (-a) (Int.gcd a b : Int); rwa [Int.natAbs_neg] at this
  · rw [if_neg hn, if_neg hn]
    obtain ⟨k1, k2⟩ := key a b (by omega) rfl da db
    refine ⟨k1, k2, ?_, Int.natAbs_ediv_le_natAbs _ _, Int.natAbs_ediv_le_natAbs _ _⟩
    obtain ⟨x, hx⟩ := da
    obtain ⟨y, hy⟩ := db
    generalize (Int.gcd a b : Int) = g at *
    subst hx hy
    rw [Int.mul_ediv_cancel_left _ g0, Int.mul_ediv_cancel_left _ g0]
    simp [Int.mul_comm, Int.mul_left_comm, Int.mul_assoc]
end Fn

set_option linter.all false
set_option maxRecDepth 100000
set_option maxHeartbeats 2000000
namespace Fn
def fWhole : Fd := ⟨1, 1, [
    .ret (some (.and (.blt (.isi [.int]) false [.var 0]) (.not (.blt (.isi [.bool]) false [.var 0]))))]⟩
def fIsPart : Fd := ⟨1, 1, [
    .ifs (.or (.not (.blt (.isi [.tuple]) false [.var 0])) (.cmp .ne (.blt .len false [.var 0]) (.cst (.int 2)))) [.ret (some (.cst (.bl false)))] [],
    .ifs (.or (.not (.call "_law_whole" [.idx (.var 0) (.cst (.int 0))] [] [] [.pos 0])) (.not (.call "_law_whole" [.idx (.var 0) (.cst (.int 1))] [] [] [.pos 0]))) [.ret (some (.cst (.bl false)))] [],
    .ret (some (.and (.cmp .ge (.idx (.var 0) (.cst (.int 1))) (.cst (.int 1))) (.cmp .eq (.call "_law_gcd" [.idx (.var 0) (.cst (.int 0)), .idx (.var 0) (.cst (.int 1))] [] [] [.pos 0, .pos 1]) (.cst (.int 1)))))]⟩
def fNumber : Fd := ⟨1, 3, [
    .asg [.nm 1] (.idx (.lst false [.cst (.int 3), .cst (.int 40), .bin .pow (.cst (.int 10)) (.cst (.int 9)), .bin .pow (.cst (.int 10)) (.cst (.int 20)), .bin .pow (.cst (.int 10)) (.cst (.int 40))]) (.call "_law_take" [.var 0, .cst (.int 5)] [] [] [.pos 0, .pos 1])),
    .asg [.nm 2] (.call "_law_take" [.var 0, .var 1] [] [] [.pos 0, .pos 1]),
    .ifs (.cmp .eq (.call "_law_take" [.var 0, .cst (.int 2)] [] [] [.pos 0, .pos 1]) (.cst (.int 0))) [.asg [.nm 2] (.bin .sub (.cst (.int 0)) (.var 2))] [],
    .ret (some (.var 2))]⟩
def lwA : List MS := [
    .asg [.nm 1] (.call "_law_pot" [.var 0] [] [] [.pos 0]),
    .asg [.nm 2] (.bin .add (.cst (.int 1)) (.call "_law_take" [.var 1, .idx (.lst false [.cst (.int 1), .cst (.int 12), .bin .pow (.cst (.int 10)) (.cst (.int 6))]) (.call "_law_take" [.var 1, .cst (.int 3)] [] [] [.pos 0, .pos 1])] [] [] [.pos 0, .pos 1])),
    .asg [.nm 3] (.bin .mul (.call "_law_number" [.var 1] [] [] [.pos 0]) (.var 2)),
    .asg [.nm 4] (.bin .mul (.call "_law_number" [.var 1] [] [] [.pos 0]) (.var 2)),
    .ifs (.cmp .eq (.call "_law_take" [.var 1, .cst (.int 6)] [] [] [.pos 0, .pos 1]) (.cst (.int 0))) [.asg [.nm 4] (.cst (.int 0))] []]
def lwB : List MS := [
    .ifs (.not (.call "_law_same" [.call "part" [.var 3] [] [] [.pos 0, .dfl (.int 1)], .tup [.var 3, .cst (.int 1)]] [] [] [.pos 0, .pos 1])) [.ret (some (.cst (.bl false)))] [],
    .ifs (.cmp .eq (.var 4) (.cst (.int 0))) [.ret (some (.cmp .eq (.why "_law_why" [("NoPart", [78, 111, 80, 97, 114, 116], []), ("AirError", [65, 105, 114, 69, 114, 114, 111, 114], [])] (.call "part" [.var 3, .var 4] [] [] [.pos 0, .pos 1])) (.tup [.cst (.str [78, 111, 80, 97, 114, 116])])))] [],
    .asg [.nm 5] (.call "part" [.var 3, .var 4] [] [] [.pos 0, .pos 1]),
    .ifs (.or (.not (.call "_law_is_part" [.var 5] [] [] [.pos 0])) (.cmp .ne (.bin .mul (.idx (.var 5) (.cst (.int 0))) (.var 4)) (.bin .mul (.var 3) (.idx (.var 5) (.cst (.int 1)))))) [.ret (some (.cst (.bl false)))] [],
    .ret (some (.call "_law_same" [.call "part" [.var 4] ["under"] [.var 2] [.pos 0, .kw 0], .call "_law_low" [.var 4, .var 2] [] [] [.pos 0, .pos 1]] [] [] [.pos 0, .pos 1]))]
def fLaw1 : Fd := ⟨1, 6, lwA ++ lwB⟩
theorem whole_run (G : Pg) (h : G.fn "_law_whole" = some fWhole) (n : Nat) (a : Int) (s : Sto) : run G (n + 1) "_law_whole" [.int a] s = .ok (.bl true) s := by
  rw [run_eq G n _ _ h _ _ rfl (by decide)]
  rw [← fin_pure s (.bl true) [some (.int a)] (by rfl)]
  congr 1
theorem ispart_run (G : Pg) (h : G.fn "_law_is_part" = some fIsPart) (hw : G.fn "_law_whole" = some fWhole) (hg : G.fn "_law_gcd" = some fGcd) (n : Nat) (a b : Int) (s : Sto) (hb : 1 ≤ b) (hf : b.natAbs < G.fuel) (h1 : Int.gcd a b = 1) : run G (n + 2) "_law_is_part" [.tup [.int a, .int b]] s = .ok (.bl true) s := by
  rw [run_eq G (n + 1) _ _ h _ _ rfl (by decide)]
  rw [← fin_pure s (.bl true) [some (.tup [.int a, .int b])] (by rfl)]
  congr 1
  have w := fun x s => whole_run G hw n x s
  have g := lawgcd_run G hg n a b { s with base := s.ob.length, esc := false } hf
  rw [h1] at g
  have i5 : ∀ (es : List D) s, bltE (.isi [.tuple]) false [.tup es] s = .ok (.bl true) s := fun es s => rfl
  have i6 : ∀ (a b : D) s, bltE .len false [.tup [a, b]] s = .ok (.int 2) s := fun a b s => rfl
  have ge : ∀ s, cmp .ge (.int b) (.int 1) s = some true := fun s => by
    show some (decide (1 ≤ b)) = _
    rw [decide_eq_true hb]
  have e22 : ∀ s, cmp .ne (.int 2) (.int 2) s = some false := fun s => rfl
  have e11 : ∀ s, cmp .eq (.int (1 : Nat)) (.int 1) s = some true := fun s => rfl
  simp only [fIsPart, evSs, evS, evE, evEs, List.map_cons, List.map_nil, List.cons_append, List.nil_append, List.getElem?_cons_succ, List.getElem?_cons_zero, R.bind_ok, R.then_ok, truth_bl, i5, i6, ge, e22, e11, idx_tup, (ix2 _ _).1, (ix2 _ _).2, srcs, Src.get, w, g, at?_some, Option.map_some, Bool.not_false, Bool.not_true]
  rfl
theorem pick3 (a b c : Int) {r : Int} (h0 : 0 ≤ r) (h1 : r < 3) (m : Int) (ha : 0 < a ∧ a ≤ m) (hb : 0 < b ∧ b ≤ m) (hc : 0 < c ∧ c ≤ m) : ∃ v, ixAt [D.int a, .int b, .int c] r = some (.int v) ∧ 0 < v ∧ v ≤ m := by
  have : r = 0 ∨ r = 1 ∨ r = 2 := by omega
  rcases this with rfl | rfl | rfl
  · exact ⟨a, rfl, ha⟩
  · exact ⟨b, rfl, hb⟩
  · exact ⟨c, rfl, hc⟩
theorem pick5 (a b c d e : Int) {r : Int} (h0 : 0 ≤ r) (h1 : r < 5) (m : Int) (ha : 0 < a ∧ a ≤ m) (hb : 0 < b ∧ b ≤ m) (hc : 0 < c ∧ c ≤ m) (hd : 0 < d ∧ d ≤ m) (he : 0 < e ∧ e ≤ m) : ∃ v, ixAt [D.int a, .int b, .int c, .int d, .int e] r = some (.int v) ∧ 0 < v ∧ v ≤ m := by
  have : r = 0 ∨ r = 1 ∨ r = 2 ∨ r = 3 ∨ r = 4 := by omega
  rcases this with rfl | rfl | rfl | rfl | rfl
  · exact ⟨a, rfl, ha⟩
  · exact ⟨b, rfl, hb⟩
  · exact ⟨c, rfl, hc⟩
  · exact ⟨d, rfl, hd⟩
  · exact ⟨e, rfl, he⟩
theorem line200b : 2 ^ 200 < divLine := Nat.pow_lt_pow_right (by decide) (by decide)
theorem number_run (G : Pg) (h : G.fn "_law_number" = some fNumber) (ht : G.fn "_law_take" = some fTake) (n : Nat) (p : Nat) (s : Sto) (hp : Pot s p) :
    ∃ r ob, run G (n + 2) "_law_number" [.loc p] s = .ok (.int r) { s with ob := ob } ∧ r.natAbs ≤ 10 ^ 40 ∧ Pot { s with ob := ob } p ∧ ob.length = s.ob.length := by
  rw [run_eq G (n + 1) _ _ h _ _ rfl (by decide)]
  have ll : ∀ {k : Nat}, k ≤ 2 ^ 200 → k < divLine := fun {k} h => Nat.lt_of_le_of_lt h line200b
  obtain ⟨r1, ob1, t1, a1, b1, p1, l1⟩ := take_run G ht n p 5 ⟨s.ob, s.ob.length, false⟩ (hp.ob rfl) (by decide) (ll (by decide))
  obtain ⟨m1, x1, y1, z1⟩ := pick5 3 40 (10 ^ 9) (10 ^ 20) (10 ^ 40) a1 b1 (10 ^ 40) (by decide) (by decide) (by decide) (by decide) (by decide)
  obtain ⟨r2, ob2, t2, a2, b2, p2, l2⟩ := take_run G ht n p m1 ⟨ob1, s.ob.length, false⟩ p1 y1 (ll (by have : (10 : Nat) ^ 40 ≤ 2 ^ 200 := by decide
                                                                                                       omega))
  obtain ⟨r3, ob3, t3, a3, b3, p3, l3⟩ := take_run G ht n p 2 ⟨ob2, s.ob.length, false⟩ p2 (by decide) (ll (by decide))
  dsimp only at l1 l2 l3
  have mk5 : ∀ (a b c d e : Int) s, mkLst false [D.int a, .int b, .int c, .int d, .int e] s = .ok (.frz (.lst [D.int a, .int b, .int c, .int d, .int e])) s := fun a b c d e s => if_pos (by show 5 ≤ 16777216; decide)
  have w9 : ∀ s, Fn.bin .pow (.int 10) (.int 9) s = .ok (.int (10 ^ 9)) s := fun s => pow_D 10 9 s (by decide)
  have w20 : ∀ s, Fn.bin .pow (.int 10) (.int 20) s = .ok (.int (10 ^ 20)) s := fun s => pow_D 10 20 s (by decide)
  have w40 : ∀ s, Fn.bin .pow (.int 10) (.int 40) s = .ok (.int (10 ^ 40)) s := fun s => pow_D 10 40 s (by decide)
  have rp : (List.replicate (3 - 1) (none : Option D)) = [none, none] := rfl
  have d0 : decide (r3 = 0) = true ∨ decide (r3 = 0) = false := by cases decide (r3 = 0) <;> simp
  rcases d0 with d0 | d0
  · refine ⟨0 - r2, ob3, ?_, by omega, p3.ob rfl, by omega⟩
    simp only [fNumber, evSs, evS, evE, evEs, List.map_cons, List.map_nil, List.cons_append, List.nil_append, rp, List.getElem?_cons_succ, List.getElem?_cons_zero, R.bind_ok, R.then_ok, srcs, Src.get, mk5, w9, w20, w40, t1, t2, t3, idx_frz, x1, at?_some, asgTs, asgT, sub_D, eq0, d0, Option.map_some, truth_bl, List.set_cons_succ, List.set_cons_zero]
    exact fin_lf s ob3 (.int (0 - r2)) _ (by rfl) (by omega)
  · refine ⟨r2, ob3, ?_, by omega, p3.ob rfl, by omega⟩
    simp only [fNumber, evSs, evS, evE, evEs, List.map_cons, List.map_nil, List.cons_append, List.nil_append, rp, List.getElem?_cons_succ, List.getElem?_cons_zero, R.bind_ok, R.then_ok, srcs, Src.get, mk5, w9, w20, w40, t1, t2, t3, idx_frz, x1, at?_some, asgTs, asgT, sub_D, eq0, d0, Option.map_some, truth_bl, List.set_cons_succ, List.set_cons_zero]
    exact fin_lf s ob3 (.int r2) _ (by rfl) (by omega)
theorem law1_tail (G : Pg) (ht : G.fn "_law_take" = some fTake) (hl : G.fn "_law_low" = some fLow) (hg : G.fn "_law_gcd" = some fGcd) (hs : G.fn "_law_same" = some fSame) (hr : G.fn "part" = some fPartR) (hc : G.fn "common" = some fCommon)
    (hi : G.fn "_law_is_part" = some fIsPart) (hw : G.fn "_law_whole" = some fWhole) (hsub : G.sub "NoPart" "NoPart" = true) (hf : 2 ^ 180 < G.fuel) (n : Nat) (sc : Option D) (p : Nat) (ob : List Ob) (by_ over low : Int) (b1 : 1 ≤ by_) (b2 : by_ ≤ 10 ^ 6) (o1 : over.natAbs ≤ 10 ^ 47) (o2 : low.natAbs ≤ 10 ^ 47) :
    ∃ s', finR ⟨[], 0, false⟩ (evSs ⟨run G (n + 4), G.fuel, none, G.sub⟩ lwB [sc, some (.loc p), some (.int by_), some (.int over), some (.int low), none] ⟨ob, 0, false⟩) = .ok (.bl true) s' := by
  have k47 : (10 : Nat) ^ 47 ≤ 2 ^ 180 := by decide
  have k6 : (10 : Nat) ^ 6 ≤ 2 ^ 180 := by decide
  have hb6 : by_.natAbs ≤ 2 ^ 180 := by omega
  have ff : ∀ {k : Nat}, k ≤ 2 ^ 180 → k < G.fuel := fun h => by omega
  have ll : ∀ {k : Nat}, k ≤ 2 ^ 180 → k < divLine := fun {k} h => Nat.lt_of_le_of_lt (Nat.le_trans h (Nat.pow_le_pow_right (by decide) (by decide))) line200b
  have kk : ∀ {k : Nat}, k ≤ 2 ^ 180 → k < 2 ^ 400000 := fun {k} h => Nat.lt_of_le_of_lt h (Nat.pow_lt_pow_right (by decide) (by decide))
  have fin : ∀ (ob : List Ob) (e : Env), ∃ s', finR ⟨[], 0, false⟩ (.ok (.ret (.bl true)) e ⟨ob, 0, false⟩) = .ok (.bl true) s' := fun ob e => ⟨_, by
    show (if (0 : Nat) = 0 then R.ok (D.bl true) (finB _ true _) else .no) = _
    rw [if_pos rfl]⟩
  have t2 : ∀ (a b : Int) s, run G (n + 4) "_law_same" [.tup [.int a, .int b], .tup [.int a, .int b]] s = .ok (.bl true) s := fun a b s => same_tup G hs (n + 2) _ _ s rfl (by simp) (fun q hq s => by
    simp only [List.zip_cons_cons, List.zip_nil_right, List.mem_cons, List.not_mem_nil, or_false] at hq
    rcases hq with rfl | rfl
    · exact same_int G hs (n + 2) a s
    · exact same_int G hs (n + 2) b s)
  have p1 : ∀ s, run G (n + 4) "part" [.int over, .int 1] s = .ok (.tup [.int over, .int 1]) s := fun s => by
    rw [partR_run G hr hc (n + 2) over 1 s (by decide) (ff (by decide)) (ll (by decide))]
    have g1 : Int.gcd over 1 = 1 := Int.gcd_one
    unfold pOver pUnder
    rw [g1, if_neg (by decide), if_neg (by decide)]
    simp
  by_cases h0 : low = 0
  · subst h0
    have q1 : ∀ s, run G (n + 4) "part" [.int over, .int 0] s = .ex ⟨"NoPart", []⟩ s := fun s => partR_ex G hr (n + 3) over s
    have qw : whyH G.sub [("NoPart", [78, 111, 80, 97, 114, 116], []), ("AirError", [65, 105, 114, 69, 114, 114, 111, 114], [])] ⟨"NoPart", []⟩ = some (.tup [.str [78, 111, 80, 97, 114, 116]]) := by
      unfold whyH
      rw [if_pos hsub, if_pos (.inl rfl)]
      rfl
    have e1 : ∀ s, cmp .eq (.tup [.str [78, 111, 80, 97, 114, 116]]) (.tup [.str [78, 111, 80, 97, 114, 116]]) s = some true := fun s => rfl
    have e0 : ∀ s, cmp .eq (.int 0) (.int 0) s = some true := fun s => rfl
    simp only [lwB, evSs, evS, evE, evEs, List.getElem?_cons_succ, List.getElem?_cons_zero, R.bind_ok, R.then_ok, srcs, Src.get, p1, t2, q1, qw, e1, e0, at?_some, Option.map_some, truth_bl, Bool.not_true]
    exact fin _ _
  · obtain ⟨u1, u2, u3, u4, u5⟩ := p_facts over low h0
    have q1 : ∀ s, run G (n + 4) "part" [.int over, .int low] s = .ok (.tup [.int (pOver over low), .int (pUnder over low)]) s := fun s => partR_run G hr hc (n + 2) over low s h0 (ff (by omega)) (ll (by omega))
    have q2 : ∀ s, run G (n + 4) "_law_is_part" [.tup [.int (pOver over low), .int (pUnder over low)]] s = .ok (.bl true) s := fun s => ispart_run G hi hw hg (n + 2) _ _ s (by omega) (ff (by omega)) u2
    have m1 : mulOk (pOver over low) low := mulOk_of (kk (by omega)) (kk (by omega))
    have m2 : mulOk over (pUnder over low) := mulOk_of (kk (by omega)) (kk (by omega))
    have q3 : ∀ s, run G (n + 4) "part" [.int low, .int by_] s = .ok (.tup [.int (pOver low by_), .int (pUnder low by_)]) s := fun s => partR_run G hr hc (n + 2) low by_ s (by omega) (ff hb6) (ll hb6)
    have q4 : ∀ s, run G (n + 4) "_law_low" [.int low, .int by_] s = .ok (.tup [.int (pOver low by_), .int (pUnder low by_)]) s := fun s => by
      have := low_run G hl hg (n + 2) low by_ s (by omega) (ff hb6) (ll hb6)
      rw [this, Int.fdiv_eq_ediv_of_nonneg _ (by omega), Int.fdiv_eq_ediv_of_nonneg _ (by omega)]
      unfold pOver pUnder
      rw [if_neg (by omega), if_neg (by omega)]
    have e0 : ∀ s, cmp .eq (.int low) (.int 0) s = some false := fun s => by rw [eq0, decide_eq_false h0]
    have e1 : ∀ s, cmp .ne (.int (pOver over low * low)) (.int (over * pUnder over low)) s = some false := fun s => by rw [neI, decide_eq_true u3]; rfl
    simp only [lwB, evSs, evS, evE, evEs, List.getElem?_cons_succ, List.getElem?_cons_zero, R.bind_ok, R.then_ok, srcs, Src.get, p1, t2, q1, q2, q3, q4, e0, e1, asgTs, asgT, at?_some, Option.map_some, truth_bl, Bool.not_true, List.set_cons_succ, List.set_cons_zero, idx_tup, (ix2 _ _).1, (ix2 _ _).2, mul_D _ _ _ m1, mul_D _ _ _ m2]
    exact fin _ _
theorem law1_run (G : Pg) (hG : G.fn "law" = some fLaw1) (hp : G.fn "_law_pot" = some fPot) (hn : G.fn "_law_number" = some fNumber) (ht : G.fn "_law_take" = some fTake) (hl : G.fn "_law_low" = some fLow) (hg : G.fn "_law_gcd" = some fGcd) (hs : G.fn "_law_same" = some fSame) (hr : G.fn "part" = some fPartR) (hc : G.fn "common" = some fCommon)
    (hi : G.fn "_law_is_part" = some fIsPart) (hw : G.fn "_law_whole" = some fWhole) (hsub : G.sub "NoPart" "NoPart" = true) (hf : 2 ^ 180 < G.fuel) (n : Nat) (ns : List Int) (h63 : ns.length ≤ 63) :
    ∃ s', run G (n + 5) "law" [.klst (ns.map D.int)] ⟨[], 0, false⟩ = .ok (.bl true) s' := by
  rw [run_eq G (n + 4) _ _ hG _ _ rfl (by decide)]
  have ll : ∀ {k : Nat}, k ≤ 2 ^ 180 → k < divLine := fun {k} h => Nat.lt_of_le_of_lt (Nat.le_trans h (Nat.pow_le_pow_right (by decide) (by decide))) line200b
  have kk : ∀ {k : Nat}, k ≤ 2 ^ 180 → k < 2 ^ 400000 := fun {k} h => Nat.lt_of_le_of_lt h (Nat.pow_lt_pow_right (by decide) (by decide))
  obtain ⟨p, ob0, w0, p0⟩ := pot_run G hp (n + 3) ns ⟨[], 0, false⟩ h63
  obtain ⟨r1, ob1, w1, a1, b1, p1, _⟩ := take_run G ht (n + 3) p 3 ⟨ob0, 0, false⟩ p0 (by decide) (ll (by decide))
  obtain ⟨m1, x1, y1, z1⟩ := pick3 1 12 (10 ^ 6) a1 b1 (10 ^ 6) (by decide) (by decide) (by decide)
  obtain ⟨r2, ob2, w2, a2, b2, p2, _⟩ := take_run G ht (n + 3) p m1 ⟨ob1, 0, false⟩ p1 y1 (ll (by have : (2 : Nat) ^ 180 ≥ 10 ^ 6 := by decide
                                                                                                  omega))
  obtain ⟨x, ob3, w3, c3, p3, _⟩ := number_run G hn ht (n + 2) p ⟨ob2, 0, false⟩ p2
  obtain ⟨y, ob4, w4, c4, p4, _⟩ := number_run G hn ht (n + 2) p ⟨ob3, 0, false⟩ p3
  obtain ⟨r5, ob5, w5, a5, b5, p5, _⟩ := take_run G ht (n + 3) p 6 ⟨ob4, 0, false⟩ p4 (by decide) (ll (by decide))
  have k40 : (10 : Nat) ^ 40 ≤ 2 ^ 180 := by decide
  have k6 : (10 : Nat) ^ 6 ≤ 2 ^ 180 := by decide
  have mx : mulOk x (1 + r2) := mulOk_of (kk (by omega)) (kk (by omega))
  have my : mulOk y (1 + r2) := mulOk_of (kk (by omega)) (kk (by omega))
  have bd : ∀ z : Int, z.natAbs ≤ 10 ^ 40 → (z * (1 + r2)).natAbs ≤ 10 ^ 47 := fun z hz => by
    rw [Int.natAbs_mul]
    have h2 : (1 + r2).natAbs ≤ 10 ^ 7 := by omega
    exact Nat.le_trans (Nat.mul_le_mul hz h2) (by decide)
  have tail := law1_tail G ht hl hg hs hr hc hi hw hsub hf n (some (.klst (ns.map D.int))) p ob5 (1 + r2) (x * (1 + r2))
  have w6 : ∀ s, Fn.bin .pow (.int 10) (.int 6) s = .ok (.int (10 ^ 6)) s := fun s => pow_D 10 6 s (by decide)
  have mk3 : ∀ (a b c : Int) s, mkLst false [D.int a, .int b, .int c] s = .ok (.frz (.lst [D.int a, .int b, .int c])) s := fun a b c s => if_pos (by show 3 ≤ 16777216; decide)
  have rp : (List.replicate (6 - 1) (none : Option D)) = [none, none, none, none, none] := rfl
  have d0 : decide (r5 = 0) = true ∨ decide (r5 = 0) = false := by cases decide (r5 = 0) <;> simp
  rcases d0 with d0 | d0
  · obtain ⟨s', t⟩ := tail 0 (by omega) (by omega) (bd x c3) (by decide)
    refine ⟨s', ?_⟩
    simp only [fLaw1, lwA, List.cons_append, List.nil_append, List.map_cons, List.map_nil, evSs, evS, evE, evEs, List.getElem?_cons_succ, List.getElem?_cons_zero, R.bind_ok, R.then_ok, srcs, Src.get, List.length_nil, mk3, w6, w0, w1, w2, w3, w4, w5, idx_frz, x1, asgTs, asgT, at?_some, rp, List.set_cons_succ, List.set_cons_zero, eq0, d0, Option.map_some, truth_bl, add_D, mul_D _ _ _ mx, mul_D _ _ _ my]
    exact t
  · obtain ⟨s', t⟩ := tail (y * (1 + r2)) (by omega) (by omega) (bd x c3) (bd y c4)
    refine ⟨s', ?_⟩
    simp only [fLaw1, lwA, List.cons_append, List.nil_append, List.map_cons, List.map_nil, evSs, evS, evE, evEs, List.getElem?_cons_succ, List.getElem?_cons_zero, R.bind_ok, R.then_ok, srcs, Src.get, List.length_nil, mk3, w6, w0, w1, w2, w3, w4, w5, idx_frz, x1, asgTs, asgT, at?_some, rp, List.set_cons_succ, List.set_cons_zero, eq0, d0, Option.map_some, truth_bl, add_D, mul_D _ _ _ mx, mul_D _ _ _ my]
    exact t
end Fn

set_option linter.all false
set_option maxRecDepth 100000
set_option maxHeartbeats 2000000
namespace Fn
/-! P12: the houses that a law draws. -/
def folkB : List MS := [.asg [.nm 3] (.bin .add (.bin .add (.var 3) (.cst (.int 1))) (.call "_law_take" [.var 0, .idx (.lst false [.cst (.int 1), .cst (.int 3), .cst (.int 1000000)]) (.call "_law_take" [.var 0, .cst (.int 3)] [] [] [.pos 0, .pos 1])] [] [] [.pos 0, .pos 1])), .exp (.bme .insert false (.var 2) [.call "_law_take" [.var 0, .bin .add (.var 4) (.cst (.int 1))] [] [] [.pos 0, .pos 1], .var 3])]
def fFolk : Fd := ⟨2, 5, [
    .asg [.nm 2] (.lst true []),
    .asg [.nm 3] (.cst (.int 0)),
    .for (.nm 4) (.rng (.var 1)) [.asg [.nm 3] (.bin .add (.bin .add (.var 3) (.cst (.int 1))) (.call "_law_take" [.var 0, .idx (.lst false [.cst (.int 1), .cst (.int 3), .cst (.int 1000000)]) (.call "_law_take" [.var 0, .cst (.int 3)] [] [] [.pos 0, .pos 1])] [] [] [.pos 0, .pos 1])), .exp (.bme .insert false (.var 2) [.call "_law_take" [.var 0, .bin .add (.var 4) (.cst (.int 1))] [] [] [.pos 0, .pos 1], .var 3])],
    .ifs (.and (.cmp .gt (.var 1) (.cst (.int 0))) (.cmp .eq (.call "_law_take" [.var 0, .cst (.int 5)] [] [] [.pos 0, .pos 1]) (.cst (.int 0)))) [.asg [.ix (.var 2) (.bme .index false (.var 2) [.var 3])] (.cst (.int 1000000000))] [],
    .ret (some (.frz 4 (.var 2)))]⟩
/-- houses: each once, from 1 on -/
def FolkL (at_ : Int) (l : List Int) : Prop := l.Nodup ∧ ∀ x ∈ l, 1 ≤ x ∧ x ≤ at_
theorem FolkL.ins {at_ v : Int} {l : List Int} (h : FolkL at_ l) (hv : at_ < v) (h0 : 0 ≤ at_) (i : Nat) : FolkL v (l.take i ++ v :: l.drop i) := by
  have hp : (l.take i ++ v :: l.drop i).Perm (v :: l) := by
    have := (List.perm_middle (a := v) (l₁ := l.take i) (l₂ := l.drop i))
    rwa [List.take_append_drop] at this
  have nv : v ∉ l := fun hm => by have := (h.2 v hm).2; omega
  refine ⟨hp.nodup_iff.mpr (List.nodup_cons.mpr ⟨nv, h.1⟩), fun x hx => ?_⟩
  rcases List.mem_cons.mp (hp.mem_iff.mp hx) with rfl | hx
  · omega
  · have := h.2 x hx; omega
theorem ins_loc {A B : List Ob} {b : Nat} {e : Bool} {m : Nat} {ds : List D} {i : Int} {v : Int} (hm : m = A.length + B.length) (hi : 0 ≤ i ∧ i < 2 ^ 62) (hl : ds.length < lenLine) :
    bmeE .insert false (.loc m) [.int i, .int v] ⟨A ++ (B ++ [.lst ds]), b, e⟩ = .ok .non ⟨A ++ (B ++ [.lst (ds.take i.toNat ++ D.int v :: ds.drop i.toNat)]), b, e⟩ := by
  have g : (A ++ (B ++ [Ob.lst ds]))[m]? = some (.lst ds) := by
    rw [List.getElem?_append_right (by omega), List.getElem?_append_right (by omega)]
    have : m - A.length - B.length = 0 := by omega
    rw [this]
    rfl
  have st : (A ++ (B ++ [Ob.lst ds])).set m (.lst (ds.take i.toNat ++ D.int v :: ds.drop i.toNat)) = A ++ (B ++ [.lst (ds.take i.toNat ++ D.int v :: ds.drop i.toNat)]) := by
    rw [List.set_append_right _ _ (by omega), List.set_append_right _ _ (by omega)]
    have : m - A.length - B.length = 0 := by omega
    rw [this]
    rfl
  show (match (A ++ (B ++ [Ob.lst ds]))[m]? with | some (.lst ds) => if ds.length < lenLine ∧ 0 ≤ i ∧ i < 2 ^ 62 then R.ok D.non (Sto.put ⟨A ++ (B ++ [Ob.lst _]), b, e⟩ m (.lst (ds.take i.toNat ++ D.int v :: ds.drop i.toNat)) (D.int v)) else .no | _ => .no) = _
  rw [g]
  dsimp only
  rw [if_pos ⟨hl, hi.1, hi.2⟩]
  unfold Sto.put
  simp only [st]
  simp [D.lf]
theorem folk_step (G : Pg) (ht : G.fn "_law_take" = some fTake) (n : Nat) (p m : Nat) (kk : Option D) (x : Option D) (j : Nat) (hj : j < 100) (at_ : Int) (l : List Int) (A B : List Ob) (b : Nat) (e : Bool) (hp : PotP p A) (hm : m = A.length + B.length) (h : FolkL at_ l) (h0 : 0 ≤ at_) (hl : l.length ≤ 100) :
    ∃ v l' A', evSs ⟨run G (n + 1), G.fuel, none, G.sub⟩ folkB [some (.loc p), kk, some (.loc m), some (.int at_), some (.int (j : Int))] ⟨A ++ (B ++ [.lst (l.map D.int)]), b, e⟩ = .ok .next [some (.loc p), kk, some (.loc m), some (.int v), some (.int (j : Int))] ⟨A' ++ (B ++ [.lst (l'.map D.int)]), b, e⟩ ∧
      PotP p A' ∧ FolkL v l' ∧ at_ < v ∧ v ≤ at_ + 1000000 ∧ l'.length = l.length + 1 ∧ v ∈ l' := by
  have sl : ∀ {k : Int}, 0 < k → k ≤ 2000000000 → k.natAbs < divLine := fun h0 h1 => small_line (by omega)
  obtain ⟨r1, A1, t1, a1, b1, p1⟩ := take_pot G ht n p 3 A (B ++ [.lst (l.map D.int)]) b e hp (by decide) (sl (by decide) (by decide))
  obtain ⟨m1, x1, y1, z1⟩ := pick3 1 3 1000000 a1 b1 1000000 (by decide) (by decide) (by decide)
  obtain ⟨r2, A2, t2, a2, b2, p2⟩ := take_pot G ht n p m1 A1 (B ++ [.lst (l.map D.int)]) b e p1 y1 (sl y1 (by omega))
  obtain ⟨r3, A3, t3, a3, b3, p3⟩ := take_pot G ht n p ((j : Int) + 1) A2 (B ++ [.lst (l.map D.int)]) b e p2 (by omega) (sl (by omega) (by omega))
  have mk3 : ∀ (a b c : Int) s, mkLst false [D.int a, .int b, .int c] s = .ok (.frz (.lst [D.int a, .int b, .int c])) s := fun a b c s => if_pos (by show 3 ≤ 16777216; decide)
  have hA : A3.length = A.length := by rw [p3.1, hp.1]
  have e4 := ins_loc (A := A3) (B := B) (b := b) (e := e) (m := m) (ds := l.map D.int) (i := r3) (v := at_ + 1 + r2) (by omega) ⟨a3, by omega⟩ (by rw [List.length_map]; exact Nat.lt_of_le_of_lt hl (by decide))
  have rc : recv .insert (.loc m) ⟨A2 ++ (B ++ [.lst (l.map D.int)]), b, e⟩ = true := by
    have hA2 : A2.length = A.length := by rw [p2.1, hp.1]
    have g : (A2 ++ (B ++ [Ob.lst (l.map D.int)]))[m]? = some (.lst (l.map D.int)) := by
      rw [List.getElem?_append_right (by omega), List.getElem?_append_right (by omega)]
      have : m - A2.length - B.length = 0 := by omega
      rw [this]
      rfl
    unfold recv view
    simp [g, Ob.unlk]
  have hl' : ((l.map D.int).take r3.toNat ++ D.int (at_ + 1 + r2) :: (l.map D.int).drop r3.toNat) = (l.take r3.toNat ++ (at_ + 1 + r2) :: l.drop r3.toNat).map D.int := by
    rw [List.map_append, List.map_cons, List.map_take, List.map_drop]
  rw [hl'] at e4
  refine ⟨at_ + 1 + r2, l.take r3.toNat ++ (at_ + 1 + r2) :: l.drop r3.toNat, A3, ?_, p3, h.ins (by omega) h0 _, by omega, by omega, ?_, by simp⟩
  · simp only [folkB, evSs, evS, evE, evEs, List.getElem?_cons_succ, List.getElem?_cons_zero, R.bind_ok, R.then_ok, at?_some, srcs, Src.get, mk3, idx_frz, t1, x1, t2, t3, add_D, asgTs, asgT, List.set_cons_succ, List.set_cons_zero, rc, if_true, e4]
  · rw [List.length_append, List.length_cons, List.length_take, List.length_drop]
    omega
theorem folk_loop (G : Pg) (ht : G.fn "_law_take" = some fTake) (n : Nat) (p m : Nat) (kk : Option D) (B : List Ob) (b : Nat) (e : Bool) (F : D → Env → Sto → RS)
    (hF : ∀ (j : Nat) (at_ : Int) (x : Option D) (s : Sto), F (.int (j : Int)) [some (.loc p), kk, some (.loc m), some (.int at_), x] s = evSs ⟨run G (n + 1), G.fuel, none, G.sub⟩ folkB [some (.loc p), kk, some (.loc m), some (.int at_), some (.int (j : Int))] s) :
    ∀ (k j : Nat) (x : Option D) (at_ : Int) (l : List Int) (A : List Ob), j + k ≤ 100 → PotP p A → m = A.length + B.length → FolkL at_ l → 0 ≤ at_ → l.length ≤ j →
    ∃ v l' A' x', forL F ((List.range' j k).map fun (i : Nat) => D.int (i : Int)) [some (.loc p), kk, some (.loc m), some (.int at_), x] ⟨A ++ (B ++ [.lst (l.map D.int)]), b, e⟩ = .ok .next [some (.loc p), kk, some (.loc m), some (.int v), x'] ⟨A' ++ (B ++ [.lst (l'.map D.int)]), b, e⟩ ∧
      PotP p A' ∧ FolkL v l' ∧ 0 ≤ v ∧ v ≤ at_ + 1000000 * k ∧ l'.length = l.length + k ∧ (0 < k → v ∈ l')
  | 0, j, x, at_, l, A, hj, hp, hm, h, h0, hl => ⟨at_, l, A, x, rfl, hp, h, h0, by omega, rfl, fun z => absurd z (by decide)⟩
  | k + 1, j, x, at_, l, A, hj, hp, hm, h, h0, hl => by
    obtain ⟨v1, l1, A1, s1, q1, q2, q3, q4, q5, q6⟩ := folk_step G ht n p m kk x j (by omega) at_ l A B b e hp hm h h0 (by omega)
    obtain ⟨v, l', A', x', s2, w1, w2, w3, w4, w5, w6⟩ := folk_loop G ht n p m kk B b e F hF k (j + 1) (some (.int (j : Int))) v1 l1 A1 (by omega) q1 (by rw [q1.1]; rw [hp.1] at hm; exact hm) q2 (by omega) (by omega)
    refine ⟨v, l', A', x', ?_, w1, w2, w3, by omega, by omega, fun _ => ?_⟩
    · show (match F (.int (j : Int)) [some (.loc p), kk, some (.loc m), some (.int at_), x] ⟨A ++ (B ++ [.lst (l.map D.int)]), b, e⟩ with | .ok .next env s => forL F ((List.range' (j + 1) k).map fun (i : Nat) => D.int (i : Int)) env s | r => r) = _
      rw [hF, s1]
      exact s2
    · cases k with
      | zero =>
        have e : RS.ok Flow.next [some (D.loc p), kk, some (.loc m), some (.int v1), some (.int (j : Int))] (⟨A1 ++ (B ++ [.lst (l1.map D.int)]), b, e⟩ : Sto) = .ok .next [some (.loc p), kk, some (.loc m), some (.int v), x'] ⟨A' ++ (B ++ [.lst (l'.map D.int)]), b, e⟩ := s2
        have hv : v1 = v := by injection e with _ e2 _; simp at e2; exact e2.1
        have hA : A1.length = A'.length := by rw [q1.1, w1.1]
        have hL : l1 = l' := by
          injection e with _ _ e3
          injection e3 with e4
          obtain ⟨_, e5⟩ := List.append_inj e4 hA
          have e6 := List.append_cancel_left e5
          simp at e6
          exact (List.map_inj_right (fun a b z => by cases z; rfl)).mp e6
        rw [← hv, ← hL]
        exact q6
      | succ k => exact w6 (by omega)
theorem fzL_int (n : Nat) (s : Sto) : ∀ l : List Int, fzL (n + 1) (l.map D.int) s = some (l.map D.int, s)
  | [] => by simp [fzL]
  | a :: l => by
    have h := fzL_int n s l
    have e : fz (n + 1) (.int a) s = some (.int a, s) := by simp [fz, D.lf]
    simp only [List.map_cons, fzL, e, Option.bind_some, h, Option.map_some]
/-- a drawn list is put aside for good -/
theorem fz_ints {A B : List Ob} {b : Nat} {e : Bool} {m : Nat} {l : List Int} (hm : m = A.length + B.length) : fz 4 (.loc m) ⟨A ++ (B ++ [.lst (l.map D.int)]), b, e⟩ = some (.frz (.lst (l.map D.int)), ⟨A ++ (B ++ [.dead]), b, e⟩) := by
  have g : (A ++ (B ++ [Ob.lst (l.map D.int)]))[m]? = some (.lst (l.map D.int)) := by
    rw [List.getElem?_append_right (by omega), List.getElem?_append_right (by omega)]
    have : m - A.length - B.length = 0 := by omega
    rw [this]
    rfl
  have st : (A ++ (B ++ [Ob.lst (l.map D.int)])).set m .dead = A ++ (B ++ [.dead]) := by
    rw [List.set_append_right _ _ (by omega), List.set_append_right _ _ (by omega)]
    have : m - A.length - B.length = 0 := by omega
    rw [this]
    rfl
  unfold fz
  simp only [g, fzL_int, Option.map_some, st]
theorem datL_int (n : Nat) : ∀ l : List Int, datL n (l.map D.int) = true
  | [] => by simp [datL]
  | a :: l => by
    have h := datL_int n l
    simp [datL, dat, h]
theorem peqI (a b : Int) : peq (.int a) (.int b) = decide (a = b) := by simp [peq]
theorem idx_int (v : Int) (l : List Int) (h : v ∈ l) : ∃ i, idxOf (.int v) (l.map D.int) = some i ∧ i < l.length ∧ l[i]? = some v := by
  unfold idxOf
  rw [if_pos ⟨by simp [dat], datL_int 60 l⟩, List.findIdx?_map]
  have e : ((fun d => peq d (.int v)) ∘ D.int) = fun a => decide (a = v) := by funext a; exact peqI a v
  rw [e]
  cases q : l.findIdx? (fun a => decide (a = v)) with
  | none =>
    have := (List.findIdx?_eq_none_iff.mp q) v h
    simp at this
  | some i =>
    obtain ⟨hi, h1, _⟩ := List.findIdx?_eq_some_iff_getElem.mp q
    exact ⟨i, rfl, hi, by rw [List.getElem?_eq_getElem hi]; exact congrArg some (of_decide_eq_true h1)⟩
theorem FolkL.top {v w : Int} {l : List Int} {i : Nat} (h : FolkL v l) (hw : v < w) (h1 : 0 ≤ v) : FolkL w (l.set i w) := by
  refine ⟨?_, fun x hx => ?_⟩
  · have nw : w ∉ l := fun hm => by have := (h.2 w hm).2; omega
    by_cases hi : i < l.length
    · have e : l.set i w = l.take i ++ w :: l.drop (i + 1) := List.set_eq_take_append_cons_drop .. |>.trans (by rw [if_pos hi])
      rw [e]
      refine (List.perm_middle).nodup_iff.mpr (List.nodup_cons.mpr ⟨fun hm => ?_, ?_⟩)
      · rcases List.mem_append.mp hm with q | q
        · exact nw (List.mem_of_mem_take q)
        · exact nw (List.mem_of_mem_drop q)
      · have := h.1
        rw [← List.take_append_drop i l] at this
        rw [List.nodup_append] at this ⊢
        refine ⟨this.1, ?_, fun a ha b hb => this.2.2 a ha b ?_⟩
        · exact this.2.1.sublist (by rw [← List.drop_drop (i := 1) (j := i)] <;> exact List.drop_sublist _ _)
        · have : l.drop (i + 1) = (l.drop i).drop 1 := by rw [List.drop_drop]
          rw [this] at hb
          exact List.mem_of_mem_drop hb
    · rw [List.set_eq_of_length_le (by omega)]
      exact h.1
  · rcases List.mem_or_eq_of_mem_set hx with q | rfl
    · have := h.2 x q; omega
    · omega
theorem lfL_int : ∀ l : List Int, D.lfL (l.map D.int) = true
  | [] => by simp [D.lfL]
  | a :: l => by
    have h := lfL_int l
    simp [D.lfL, D.lf, h]
theorem lf_ints (l : List Int) : (D.frz (.lst (l.map D.int))).lf = true := by
  have h := lfL_int l
  simp [D.lf, Ob.lf, h]
/-- what a def made goes with it -/
theorem fin_drop {A B A' X : List Ob} {b : Nat} {e : Bool} {d : D} {env : Env} (hd : d.lf = true) (hA : A'.length = A.length) : finR ⟨A ++ B, b, e⟩ (.ok (.ret d) env ⟨A' ++ (B ++ X), (A ++ B).length, false⟩) = .ok d ⟨A' ++ B, b, e⟩ := by
  show (if (A ++ B).length = (A ++ B).length then R.ok d (finB _ d.lf _) else .no) = _
  rw [if_pos rfl]
  unfold finB
  rw [if_pos ⟨hd, rfl⟩]
  show R.ok d (⟨(A' ++ (B ++ X)).take (A ++ B).length, b, e⟩ : Sto) = _
  rw [← List.append_assoc, List.take_append_of_le_length (by simp [hA]), List.take_of_length_le (by simp [hA])]
theorem rng_int (C : Ctx) (i : Int) (h0 : 0 ≤ i) (hk : i ≤ 100) (e0 : Option D) (r : Env) (s : Sto) : evI C (.rng (.var 1)) (e0 :: some (.int i) :: r) s = .ok ((List.range i.toNat).map (fun (i : Nat) => D.int (i : Int)), []) s := by
  simp only [evI, evE, List.getElem?_cons_succ, List.getElem?_cons_zero, R.bind_ok, at?_some]
  rw [if_pos ⟨by omega, by omega⟩]
end Fn

set_option linter.all false
set_option maxRecDepth 100000
set_option maxHeartbeats 2000000
namespace Fn
theorem seq_nil (C : Ctx) (env : Env) (s : Sto) : evSs C [] env s = .ok .next env s := rfl
theorem seq_cons (C : Ctx) (m : MS) (r : List MS) (env : Env) (s : Sto) : evSs C (m :: r) env s = match evS C m env s with | .ok .next env s => evSs C r env s | r => r := rfl
/-- `_law_folk`: k houses -/
theorem folk_run (G : Pg) (h : G.fn "_law_folk" = some fFolk) (ht : G.fn "_law_take" = some fTake) (n p k : Nat) (A B : List Ob) (b : Nat) (e : Bool) (hp : PotP p A) (h1 : 1 ≤ k) (hk : k ≤ 100) :
    ∃ l A', run G (n + 2) "_law_folk" [.loc p, .int (k : Int)] ⟨A ++ B, b, e⟩ = .ok (.frz (.lst (l.map D.int))) ⟨A' ++ B, b, e⟩ ∧ PotP p A' ∧ FolkL 1000000000 l ∧ l.length = k := by
  rw [run_eq G (n + 1) _ _ h _ _ rfl (by decide)]
  have rp : (List.replicate (fFolk.ns - fFolk.np) (none : Option D)) = [none, none, none] := rfl
  have sl : ∀ {k : Int}, 0 < k → k ≤ 2000000000 → k.natAbs < divLine := fun h0 h1 => small_line (by omega)
  obtain ⟨v, l, A1, x', f1, p1, q1, q2, q3, q4, q5⟩ := folk_loop G ht n p (A ++ B).length (some (.int (k : Int))) B (A ++ B).length false (fun d env s => match bindT 3 (.nm 4) d s env with
        | some env => evSs ⟨run G (n + 1), G.fuel, none, G.sub⟩ folkB env s
        | none => .no) (fun j at_ x s => rfl) k 0 none 0 [] A (by omega) hp (by rw [List.length_append]) ⟨List.nodup_nil, fun x hx => by cases hx⟩ (by omega) (by simp)
  obtain ⟨r, A2, t1, a1, b1, p2⟩ := take_pot G ht n p 5 A1 (B ++ [.lst (l.map D.int)]) (A ++ B).length false p1 (by decide) (sl (by decide) (by decide))
  have hv := q5 (by omega)
  obtain ⟨i, i1, i2, i3⟩ := idx_int v l hv
  have hm1 : (A ++ B).length = A1.length + B.length := by rw [List.length_append, p1.1, hp.1]
  have hm2 : (A ++ B).length = A2.length + B.length := by rw [List.length_append, p2.1, hp.1]
  have q4' : l.length = k := by simpa using q4
  have gt : ∀ s, cmp .gt (.int (k : Int)) (.int 0) s = some true := fun s => by
    show some (decide ((0 : Int) < k)) = _
    rw [decide_eq_true (by omega)]
  have mk0 : ∀ s : Sto, mkLst true [] s = .ok (.loc s.ob.length) { s with ob := s.ob ++ [.lst []] } := fun s => rfl
  have nx : ∀ (f : Flow) (e : Env) (s : Sto) (b : Bool), RS.unlock [] ((RS.ok f e s).noxI b) = .ok f e s := fun f e s b => by cases b <;> rfl
  have er : ∀ env s, evI ⟨run G (n + 1), G.fuel, none, G.sub⟩ (.rng (.var 1)) (env :: some (.int (k : Int)) :: [some (.loc (A ++ B).length), some (.int 0), none]) s = .ok ((List.range' 0 k).map (fun (i : Nat) => D.int (i : Int)), []) s := fun env s => by
    have q := rng_int ⟨run G (n + 1), G.fuel, none, G.sub⟩ (k : Int) (by omega) (by omega) env [some (.loc (A ++ B).length), some (.int 0), none] s
    rw [Int.toNat_natCast, List.range_eq_range'] at q
    exact q
  have fin : ∀ (A' : List Ob) (l' : List Int) env, A'.length = A.length → finR ⟨A ++ B, b, e⟩ (.ok (.ret (.frz (.lst (l'.map D.int)))) env ⟨A' ++ (B ++ [.dead]), (A ++ B).length, false⟩) = .ok (.frz (.lst (l'.map D.int))) ⟨A' ++ B, b, e⟩ := fun A' l' env hA => fin_drop (lf_ints l') hA
  have e0 : (⟨(A ++ B) ++ [.lst []], (A ++ B).length, false⟩ : Sto) = ⟨A ++ (B ++ [.lst (([] : List Int).map D.int)]), (A ++ B).length, false⟩ := by rw [List.append_assoc]; rfl
  have go : evSs ⟨run G (n + 1), G.fuel, none, G.sub⟩ fFolk.body ([D.loc p, D.int (k : Int)].map some ++ List.replicate (fFolk.ns - fFolk.np) none) ⟨A ++ B, (A ++ B).length, false⟩ = evSs ⟨run G (n + 1), G.fuel, none, G.sub⟩ [.ifs (.and (.cmp .gt (.var 1) (.cst (.int 0))) (.cmp .eq (.call "_law_take" [.var 0, .cst (.int 5)] [] [] [.pos 0, .pos 1]) (.cst (.int 0)))) [.asg [.ix (.var 2) (.bme .index false (.var 2) [.var 3])] (.cst (.int 1000000000))] [], .ret (some (.frz 4 (.var 2)))] [some (.loc p), some (.int (k : Int)), some (.loc (A ++ B).length), some (.int v), x'] ⟨A1 ++ (B ++ [.lst (l.map D.int)]), (A ++ B).length, false⟩ := by
    show evSs _ (_ :: _ :: _ :: _ :: _ :: []) _ _ = _
    rw [seq_cons]
    simp only [evS, evE, evEs, List.map_cons, List.map_nil, List.cons_append, List.nil_append, rp, R.bind_ok, R.then_ok, mk0, asgTs, asgT, List.set_cons_succ, List.set_cons_zero, e0]
    rw [seq_cons]
    simp only [evS, evE, evEs, R.bind_ok, R.then_ok, asgTs, asgT, List.set_cons_succ, List.set_cons_zero]
    rw [seq_cons, evS]
    erw [er]
    simp only [R.then_ok, lockAll]
    erw [f1]
    rw [nx]
  have at1 : ∀ {X : List Ob} {y : Ob}, (A ++ B).length = X.length + B.length → (X ++ (B ++ [y]))[(A ++ B).length]? = some y := fun {X y} hx => by
    rw [List.getElem?_append_right (by omega), List.getElem?_append_right (by omega)]
    have : (A ++ B).length - X.length - B.length = 0 := by omega
    rw [this]
    rfl
  have st1 : ∀ {X : List Ob} {y z : Ob}, (A ++ B).length = X.length + B.length → (X ++ (B ++ [y])).set (A ++ B).length z = X ++ (B ++ [z]) := fun {X y z} hx => by
    rw [List.set_append_right _ _ (by omega), List.set_append_right _ _ (by omega)]
    have : (A ++ B).length - X.length - B.length = 0 := by omega
    rw [this]
    rfl
  rw [go]
  have d0 : decide (r = 0) = true ∨ decide (r = 0) = false := by cases decide (r = 0) <;> simp
  have z1 := fun l' => fz_ints (A := A2) (B := B) (b := (A ++ B).length) (e := false) (l := l') hm2
  rcases d0 with d0 | d0
  · have lo : lstOf (.loc (A ++ B).length) ⟨A2 ++ (B ++ [.lst (l.map D.int)]), (A ++ B).length, false⟩ = some (l.map D.int) := by
      unfold lstOf view
      simp only [at1 hm2, Option.map_some, Ob.unlk]
    have ix : bmeE .index false (.loc (A ++ B).length) [.int v] ⟨A2 ++ (B ++ [.lst (l.map D.int)]), (A ++ B).length, false⟩ = .ok (.int (i : Int)) ⟨A2 ++ (B ++ [.lst (l.map D.int)]), (A ++ B).length, false⟩ := by
      unfold bmeE
      rw [lo]
      dsimp only
      rw [i1]
    have rc : recv .index (.loc (A ++ B).length) ⟨A2 ++ (B ++ [.lst (l.map D.int)]), (A ++ B).length, false⟩ = true := by
      unfold recv
      rw [lo]
      rfl
    have pt := put_loc (s := ⟨A2 ++ (B ++ [.lst (l.map D.int)]), (A ++ B).length, false⟩) (i := (i : Int)) (k := i) (v := .int 1000000000) (at1 hm2) (by unfold ixPut; simp [i2]) rfl
    rw [st1 hm2] at pt
    have hs : (l.map D.int).set i (.int 1000000000) = (l.set i 1000000000).map D.int := by rw [List.map_set]
    rw [hs] at pt
    refine ⟨l.set i 1000000000, A2, ?_, p2, q1.top (by omega) q2, by rw [List.length_set, q4']⟩
    rw [← fin A2 (l.set i 1000000000) [some (.loc p), some (.int (k : Int)), some (.loc (A ++ B).length), some (.int v), x'] (by rw [p2.1, hp.1])]
    refine congrArg (finR ⟨A ++ B, b, e⟩) ?_
    simp only [evSs, evS, evE, evEs, List.getElem?_cons_succ, List.getElem?_cons_zero, R.bind_ok, R.then_ok, at?_some, srcs, Src.get, gt, t1, eq0, d0, truth_bl, Option.map_some, asgTs, asgT, rc, ix, pt, if_true, z1]
  · refine ⟨l, A2, ?_, p2, ⟨q1.1, fun x hx => by have := q1.2 x hx; omega⟩, q4'⟩
    rw [← fin A2 l [some (.loc p), some (.int (k : Int)), some (.loc (A ++ B).length), some (.int v), x'] (by rw [p2.1, hp.1])]
    refine congrArg (finR ⟨A ++ B, b, e⟩) ?_
    simp only [evSs, evS, evE, evEs, List.getElem?_cons_succ, List.getElem?_cons_zero, R.bind_ok, R.then_ok, at?_some, srcs, Src.get, gt, t1, eq0, d0, truth_bl, Option.map_some, z1]
end Fn

set_option linter.all false
set_option maxRecDepth 100000
set_option maxHeartbeats 2000000
namespace Fn
/-! P14: the ears that a law draws. -/
theorem at_end {A B : List Ob} {m : Nat} {y : Ob} (hm : m = A.length + B.length) : (A ++ (B ++ [y]))[m]? = some y := by
  rw [List.getElem?_append_right (by omega), List.getElem?_append_right (by omega)]
  have : m - A.length - B.length = 0 := by omega
  rw [this]
  rfl
theorem set_end {A B : List Ob} {m : Nat} {y z : Ob} (hm : m = A.length + B.length) : (A ++ (B ++ [y])).set m z = A ++ (B ++ [z]) := by
  rw [List.set_append_right _ _ (by omega), List.set_append_right _ _ (by omega)]
  have : m - A.length - B.length = 0 := by omega
  rw [this]
  rfl
theorem ins_end {A B : List Ob} {b : Nat} {e : Bool} {m : Nat} {ds : List D} {i : Int} {v : D} (hv : v.lf = true) (hm : m = A.length + B.length) (hi : 0 ≤ i ∧ i < 2 ^ 62) (hl : ds.length < lenLine) :
    bmeE .insert false (.loc m) [.int i, v] ⟨A ++ (B ++ [.lst ds]), b, e⟩ = .ok .non ⟨A ++ (B ++ [.lst (ds.take i.toNat ++ v :: ds.drop i.toNat)]), b, e⟩ := by
  show (match (A ++ (B ++ [Ob.lst ds]))[m]? with | some (.lst ds) => if ds.length < lenLine ∧ 0 ≤ i ∧ i < 2 ^ 62 then R.ok D.non (Sto.put ⟨A ++ (B ++ [Ob.lst _]), b, e⟩ m (.lst (ds.take i.toNat ++ v :: ds.drop i.toNat)) v) else .no | _ => .no) = _
  rw [at_end hm]
  dsimp only
  rw [if_pos ⟨hl, hi.1, hi.2⟩]
  unfold Sto.put
  simp only [set_end hm, hv]
  simp
theorem lst_end {A B : List Ob} {b : Nat} {e : Bool} {m : Nat} {ds : List D} (hm : m = A.length + B.length) : lstOf (.loc m) ⟨A ++ (B ++ [.lst ds]), b, e⟩ = some ds := by
  unfold lstOf view
  simp only [at_end hm, Option.map_some, Ob.unlk]
theorem len_end {A B : List Ob} {b : Nat} {e : Bool} {m : Nat} {ds : List D} (hm : m = A.length + B.length) : bltE .len false [.loc m] ⟨A ++ (B ++ [.lst ds]), b, e⟩ = .ok (.int ds.length) ⟨A ++ (B ++ [.lst ds]), b, e⟩ := by
  unfold bltE dctOf seqOf view
  simp only [at_end hm, Option.map_some, Ob.unlk]
theorem rcv_end {A B : List Ob} {b : Nat} {e : Bool} {m : Nat} {ds : List D} (hm : m = A.length + B.length) : recv .insert (.loc m) ⟨A ++ (B ++ [.lst ds]), b, e⟩ = true := by
  unfold recv view
  simp only [at_end hm, Option.map_some, Ob.unlk]
theorem ltI (a b : Int) (s : Sto) : cmp .lt (.int a) (.int b) s = some (decide (a < b)) := rfl
def tp2 (q : Int × Int) : D := .tup [.int q.1, .int q.2]
theorem tp2_lf (q : Int × Int) : (tp2 q).lf = true := rfl
def earB2 : List MS := [.ifs (.and (.cmp .ne (.var 4) (.var 5)) (.cmp .lt (.call "_law_take" [.var 0, .cst (.int 8)] [] [] [.pos 0, .pos 1]) (.var 2))) [.exp (.bme .insert false (.var 3) [.call "_law_take" [.var 0, .bin .add (.blt .len false [.var 3]) (.cst (.int 1))] [] [] [.pos 0, .pos 1], .tup [.var 4, .var 5]])] []]
def earB1 : List MS := [.for (.nm 5) (.it (.var 1)) earB2]
def fEars : Fd := ⟨3, 6, [.asg [.nm 3] (.lst true []), .for (.nm 4) (.it (.var 1)) earB1, .ret (some (.frz 4 (.var 3)))]⟩
theorem ears_step (G : Pg) (ht : G.fn "_law_take" = some fTake) (n : Nat) (p m : Nat) (fk : Option D) (th a c : Int) (es : List (Int × Int)) (A B : List Ob) (b : Nat) (e : Bool) (hp : PotP p A) (hm : m = A.length + B.length) (hl : es.length ≤ 100000) :
    ∃ es' A', evSs ⟨run G (n + 1), G.fuel, none, G.sub⟩ earB2 [some (.loc p), fk, some (.int th), some (.loc m), some (.int a), some (.int c)] ⟨A ++ (B ++ [.lst (es.map tp2)]), b, e⟩ = .ok .next [some (.loc p), fk, some (.int th), some (.loc m), some (.int a), some (.int c)] ⟨A' ++ (B ++ [.lst (es'.map tp2)]), b, e⟩ ∧
      PotP p A' ∧ (es' = es ∨ (a ≠ c ∧ ∃ i, es' = es.take i ++ (a, c) :: es.drop i)) := by
  have sl : ∀ {k : Int}, 0 < k → k ≤ 2000000000 → k.natAbs < divLine := fun h0 h1 => small_line (by omega)
  by_cases hac : a = c
  · refine ⟨es, A, ?_, hp, .inl rfl⟩
    have d1 : decide (a = c) = true := decide_eq_true hac
    simp only [earB2, evSs, evS, evE, List.getElem?_cons_succ, List.getElem?_cons_zero, R.bind_ok, R.then_ok, at?_some, neI, d1, Option.map_some, truth_bl, Bool.not_true]
  · have d1 : decide (a = c) = false := decide_eq_false hac
    obtain ⟨r1, A1, t1, a1, b1, p1⟩ := take_pot G ht n p 8 A (B ++ [.lst (es.map tp2)]) b e hp (by decide) (sl (by decide) (by decide))
    have hm1 : m = A1.length + B.length := by rw [p1.1, ← hp.1]; exact hm
    have d2 : decide (r1 < th) = true ∨ decide (r1 < th) = false := by cases decide (r1 < th) <;> simp
    rcases d2 with d2 | d2
    · have hle : (es.map tp2).length = es.length := List.length_map ..
      obtain ⟨r2, A2, t2, a2, b2, p2⟩ := take_pot G ht n p ((es.length : Int) + 1) A1 (B ++ [.lst (es.map tp2)]) b e p1 (by omega) (sl (by omega) (by omega))
      have hm2 : m = A2.length + B.length := by rw [p2.1, ← p1.1]; exact hm1
      have e4 := ins_end (A := A2) (B := B) (b := b) (e := e) (m := m) (ds := es.map tp2) (i := r2) (v := tp2 (a, c)) rfl hm2 ⟨a2, by omega⟩ (by rw [hle]; exact Nat.lt_of_le_of_lt hl (by decide))
      have hl' : ((es.map tp2).take r2.toNat ++ tp2 (a, c) :: (es.map tp2).drop r2.toNat) = (es.take r2.toNat ++ (a, c) :: es.drop r2.toNat).map tp2 := by
        rw [List.map_append, List.map_cons, List.map_take, List.map_drop]
      rw [hl'] at e4
      have e4' : bmeE .insert false (.loc m) [.int r2, .tup [.int a, .int c]] ⟨A2 ++ (B ++ [.lst (es.map tp2)]), b, e⟩ = .ok .non ⟨A2 ++ (B ++ [.lst ((es.take r2.toNat ++ (a, c) :: es.drop r2.toNat).map tp2)]), b, e⟩ := e4
      refine ⟨es.take r2.toNat ++ (a, c) :: es.drop r2.toNat, A2, ?_, p2, .inr ⟨hac, r2.toNat, rfl⟩⟩
      have le1 := len_end (A := A1) (B := B) (b := b) (e := e) (m := m) (ds := es.map tp2) hm1
      rw [hle] at le1
      have rc := rcv_end (A := A1) (B := B) (b := b) (e := e) (m := m) (ds := es.map tp2) hm1
      simp only [earB2, evSs, evS, evE, evEs, List.getElem?_cons_succ, List.getElem?_cons_zero, R.bind_ok, R.then_ok, at?_some, neI, d1, d2, Option.map_some, truth_bl, Bool.not_false, srcs, Src.get, t1, ltI, le1, add_D, t2, rc, if_true, e4']
    · refine ⟨es, A1, ?_, p1, .inl rfl⟩
      simp only [earB2, evSs, evS, evE, evEs, List.getElem?_cons_succ, List.getElem?_cons_zero, R.bind_ok, R.then_ok, at?_some, neI, d1, d2, Option.map_some, truth_bl, Bool.not_false, srcs, Src.get, t1, ltI]
/-- what the list of ears is while pairs R are still to be asked -/
structure EarI (l : List Int) (N : Nat) (es R : List (Int × Int)) : Prop where
  nd : es.Nodup
  mem : ∀ q ∈ es, q.1 ∈ l ∧ q.2 ∈ l ∧ q.1 ≠ q.2
  dis : ∀ q ∈ es, q ∉ R
  len : es.length + R.length ≤ N
theorem ins_perm {α : Type} (l : List α) (i : Nat) (x : α) : (l.take i ++ x :: l.drop i).Perm (x :: l) := by
  have := (List.perm_middle (a := x) (l₁ := l.take i) (l₂ := l.drop i))
  rwa [List.take_append_drop] at this
theorem EarI.step {l : List Int} {N : Nat} {es es' R : List (Int × Int)} {a c : Int} (h : EarI l N es ((a, c) :: R)) (hR : ((a, c) :: R).Nodup) (ha : a ∈ l) (hc : c ∈ l) (he : es' = es ∨ (a ≠ c ∧ ∃ i, es' = es.take i ++ (a, c) :: es.drop i)) : EarI l N es' R := by
  have hl := h.len
  rw [List.length_cons] at hl
  rcases he with rfl | ⟨hne, i, rfl⟩
  · exact ⟨h.nd, h.mem, fun q hq hr => h.dis q hq (List.mem_cons_of_mem _ hr), by omega⟩
  · have hp := ins_perm es i (a, c)
    have nm : (a, c) ∉ es := fun hm => h.dis _ hm List.mem_cons_self
    refine ⟨hp.nodup_iff.mpr (List.nodup_cons.mpr ⟨nm, h.nd⟩), fun q hq => ?_, fun q hq hr => ?_, ?_⟩
    · rcases List.mem_cons.mp (hp.mem_iff.mp hq) with rfl | hq
      · exact ⟨ha, hc, hne⟩
      · exact h.mem q hq
    · rcases List.mem_cons.mp (hp.mem_iff.mp hq) with rfl | hq
      · exact (List.nodup_cons.mp hR).1 hr
      · exact h.dis q hq (List.mem_cons_of_mem _ hr)
    · rw [hp.length_eq, List.length_cons]; omega
theorem ears_in (G : Pg) (ht : G.fn "_law_take" = some fTake) (n : Nat) (p m : Nat) (fk : Option D) (th a : Int) (l : List Int) (N : Nat) (hN : N ≤ 100000) (ha : a ∈ l) (B : List Ob) (b : Nat) (e : Bool) (F : D → Env → Sto → RS)
    (hF : ∀ (c : Int) (x : Option D) (s : Sto), F (.int c) [some (.loc p), fk, some (.int th), some (.loc m), some (.int a), x] s = evSs ⟨run G (n + 1), G.fuel, none, G.sub⟩ earB2 [some (.loc p), fk, some (.int th), some (.loc m), some (.int a), some (.int c)] s) :
    ∀ (cs : List Int) (R : List (Int × Int)) (x : Option D) (es : List (Int × Int)) (A : List Ob), (∀ c ∈ cs, c ∈ l) → (cs.map (fun c => (a, c)) ++ R).Nodup → EarI l N es (cs.map (fun c => (a, c)) ++ R) → PotP p A → m = A.length + B.length →
    ∃ es' A' x', forL F (cs.map D.int) [some (.loc p), fk, some (.int th), some (.loc m), some (.int a), x] ⟨A ++ (B ++ [.lst (es.map tp2)]), b, e⟩ = .ok .next [some (.loc p), fk, some (.int th), some (.loc m), some (.int a), x'] ⟨A' ++ (B ++ [.lst (es'.map tp2)]), b, e⟩ ∧ PotP p A' ∧ EarI l N es' R
  | [], R, x, es, A, hc, hn, h, hp, hm => ⟨es, A, x, rfl, hp, h⟩
  | c :: cs, R, x, es, A, hc, hn, h, hp, hm => by
    obtain ⟨es1, A1, s1, q1, q2⟩ := ears_step G ht n p m fk th a c es A B b e hp hm (by have := h.len; omega)
    have h1 : EarI l N es1 (cs.map (fun c => (a, c)) ++ R) := EarI.step h hn ha (hc c List.mem_cons_self) q2
    obtain ⟨es2, A2, x2, s2, w1, w2⟩ := ears_in G ht n p m fk th a l N hN ha B b e F hF cs R (some (.int c)) es1 A1 (fun z hz => hc z (List.mem_cons_of_mem _ hz)) (List.nodup_cons.mp hn).2 h1 q1 (by rw [q1.1, ← hp.1]; exact hm)
    refine ⟨es2, A2, x2, ?_, w1, w2⟩
    show (match F (.int c) [some (.loc p), fk, some (.int th), some (.loc m), some (.int a), x] ⟨A ++ (B ++ [.lst (es.map tp2)]), b, e⟩ with | .ok .next env s => forL F (cs.map D.int) env s | r => r) = _
    rw [hF, s1]
    exact s2
/-- a loop over a list that never changes -/
theorem for_frz {C : Ctx} {t : Tgt} {i : Nat} {bd : List MS} {ds : List D} {env env' : Env} {s s' : Sto} {f : Flow} (h : env[i]? = some (some (.frz (.lst ds))))
    (q : forL (fun d env s => match bindT 3 t d s env with
        | some env => evSs C bd env s
        | none => .no) ds env s = .ok f env' s') : evS C (.for t (.it (.var i)) bd) env s = .ok f env' s' := by
  have e1 : evI C (.it (.var i)) env s = .ok (ds, []) s := by
    simp only [evI, evE, h, R.bind_ok]
    rfl
  simp only [evS, e1, R.then_ok, lockAll]
  erw [q]
  rfl
theorem ears_out (G : Pg) (ht : G.fn "_law_take" = some fTake) (n : Nat) (p m : Nat) (th : Int) (l : List Int) (N : Nat) (hN : N ≤ 100000) (B : List Ob) (b : Nat) (e : Bool) (F : D → Env → Sto → RS)
    (hF : ∀ (a : Int) (x y : Option D) (s : Sto), F (.int a) [some (.loc p), some (.frz (.lst (l.map D.int))), some (.int th), some (.loc m), x, y] s = evSs ⟨run G (n + 1), G.fuel, none, G.sub⟩ earB1 [some (.loc p), some (.frz (.lst (l.map D.int))), some (.int th), some (.loc m), some (.int a), y] s) :
    ∀ (as : List Int) (x y : Option D) (es : List (Int × Int)) (A : List Ob), (∀ a ∈ as, a ∈ l) → (as.flatMap fun a => l.map fun c => (a, c)).Nodup → EarI l N es (as.flatMap fun a => l.map fun c => (a, c)) → PotP p A → m = A.length + B.length →
    ∃ es' A' x' y', forL F (as.map D.int) [some (.loc p), some (.frz (.lst (l.map D.int))), some (.int th), some (.loc m), x, y] ⟨A ++ (B ++ [.lst (es.map tp2)]), b, e⟩ = .ok .next [some (.loc p), some (.frz (.lst (l.map D.int))), some (.int th), some (.loc m), x', y'] ⟨A' ++ (B ++ [.lst (es'.map tp2)]), b, e⟩ ∧ PotP p A' ∧ EarI l N es' []
  | [], x, y, es, A, ha, hn, h, hp, hm => ⟨es, A, x, y, rfl, hp, h⟩
  | a :: as, x, y, es, A, ha, hn, h, hp, hm => by
    obtain ⟨es1, A1, y1, s1, q1, q2⟩ := ears_in G ht n p m (some (.frz (.lst (l.map D.int)))) th a l N hN (ha a List.mem_cons_self) B b e (fun d env s => match bindT 3 (.nm 5) d s env with
        | some env => evSs ⟨run G (n + 1), G.fuel, none, G.sub⟩ earB2 env s
        | none => .no) (fun c x s => rfl) l (as.flatMap fun a => l.map fun c => (a, c)) y es A (fun c hc => hc) hn h hp hm
    obtain ⟨es2, A2, x2, y2, s2, w1, w2⟩ := ears_out G ht n p m th l N hN B b e F hF as (some (.int a)) y1 es1 A1 (fun z hz => ha z (List.mem_cons_of_mem _ hz)) (List.nodup_append.mp hn).2.1 q2 q1 (by rw [q1.1, ← hp.1]; exact hm)
    refine ⟨es2, A2, x2, y2, ?_, w1, w2⟩
    show (match F (.int a) [some (.loc p), some (.frz (.lst (l.map D.int))), some (.int th), some (.loc m), x, y] ⟨A ++ (B ++ [.lst (es.map tp2)]), b, e⟩ with | .ok .next env s => forL F (as.map D.int) env s | r => r) = _
    rw [hF]
    have st : evSs ⟨run G (n + 1), G.fuel, none, G.sub⟩ earB1 [some (.loc p), some (.frz (.lst (l.map D.int))), some (.int th), some (.loc m), some (.int a), y] ⟨A ++ (B ++ [.lst (es.map tp2)]), b, e⟩ = .ok .next [some (.loc p), some (.frz (.lst (l.map D.int))), some (.int th), some (.loc m), some (.int a), y1] ⟨A1 ++ (B ++ [.lst (es1.map tp2)]), b, e⟩ := by
      unfold earB1
      rw [seq_cons, for_frz rfl s1]
      rfl
    rw [st]
    exact s2
theorem fzL_tp (n : Nat) (s : Sto) : ∀ l : List (Int × Int), fzL (n + 1) (l.map tp2) s = some (l.map tp2, s)
  | [] => by simp [fzL]
  | a :: l => by
    have h := fzL_tp n s l
    have e : fz (n + 1) (tp2 a) s = some (tp2 a, s) := by unfold fz tp2; rfl
    simp only [List.map_cons, fzL, e, Option.bind_some, h, Option.map_some]
theorem fz_tps {A B : List Ob} {b : Nat} {e : Bool} {m : Nat} {l : List (Int × Int)} (hm : m = A.length + B.length) : fz 4 (.loc m) ⟨A ++ (B ++ [.lst (l.map tp2)]), b, e⟩ = some (.frz (.lst (l.map tp2)), ⟨A ++ (B ++ [.dead]), b, e⟩) := by
  unfold fz
  simp only [at_end hm, fzL_tp, Option.map_some, set_end hm]
theorem lfL_tp : ∀ l : List (Int × Int), D.lfL (l.map tp2) = true
  | [] => by simp [D.lfL]
  | a :: l => by
    have h := lfL_tp l
    simp [D.lfL, h, tp2_lf]
theorem lf_tps (l : List (Int × Int)) : (D.frz (.lst (l.map tp2))).lf = true := by
  have h := lfL_tp l
  simp [D.lf, Ob.lf, h]
/-- ears: pairs of unlike houses, each once -/
def EarL (l : List Int) (es : List (Int × Int)) : Prop := es.Nodup ∧ ∀ q ∈ es, q.1 ∈ l ∧ q.2 ∈ l ∧ q.1 ≠ q.2
theorem grid_nodup : ∀ {as l : List Int}, as.Nodup → l.Nodup → (as.flatMap fun a => l.map fun c => (a, c)).Nodup
  | [], l, _, _ => List.nodup_nil
  | a :: as, l, h1, h2 => by
    rw [List.flatMap_cons, List.nodup_append]
    refine ⟨?_, grid_nodup (List.nodup_cons.mp h1).2 h2, fun x hx y hy e => ?_⟩
    · exact List.pairwise_map.mpr (h2.imp fun hne e => hne (Prod.mk.inj e).2)
    · subst e
      obtain ⟨c, _, rfl⟩ := List.mem_map.mp hx
      obtain ⟨a', ha', q⟩ := List.mem_flatMap.mp hy
      obtain ⟨c', _, e⟩ := List.mem_map.mp q
      exact (List.nodup_cons.mp h1).1 (by rw [← (Prod.mk.inj e).1]; exact ha')
theorem grid_len (l : List Int) : ∀ as : List Int, (as.flatMap fun a => l.map fun c => (a, c)).length = as.length * l.length
  | [] => by simp
  | a :: as => by rw [List.flatMap_cons, List.length_append, List.length_map, grid_len l as, List.length_cons, Nat.add_mul, Nat.one_mul, Nat.add_comm]
/-- `_law_ears` -/
theorem ears_run (G : Pg) (h : G.fn "_law_ears" = some fEars) (ht : G.fn "_law_take" = some fTake) (n p : Nat) (l : List Int) (th : Int) (A B : List Ob) (b : Nat) (e : Bool) (hp : PotP p A) (hl : l.length ≤ 100) (hn : l.Nodup) :
    ∃ es A', run G (n + 2) "_law_ears" [.loc p, .frz (.lst (l.map D.int)), .int th] ⟨A ++ B, b, e⟩ = .ok (.frz (.lst (es.map tp2))) ⟨A' ++ B, b, e⟩ ∧ PotP p A' ∧ EarL l es ∧ es.length ≤ 10000 := by
  rw [run_eq G (n + 1) _ _ h _ _ rfl (by decide)]
  have ln : l.length * l.length ≤ 10000 := Nat.mul_le_mul hl hl
  have I0 : EarI l 10000 [] (l.flatMap fun a => l.map fun c => (a, c)) := ⟨List.nodup_nil, fun q hq => (nomatch hq), fun q hq => (nomatch hq), by rw [grid_len]; simpa using ln⟩
  obtain ⟨es, A1, x1, y1, s1, p1, q1⟩ := ears_out G ht n p (A ++ B).length th l 10000 (by decide) B (A ++ B).length false (fun d env s => match bindT 3 (.nm 4) d s env with
        | some env => evSs ⟨run G (n + 1), G.fuel, none, G.sub⟩ earB1 env s
        | none => .no) (fun a x y s => rfl) l none none [] A (fun a ha => ha) (grid_nodup hn hn) I0 hp (by rw [List.length_append])
  have hm1 : (A ++ B).length = A1.length + B.length := by rw [List.length_append, p1.1, hp.1]
  refine ⟨es, A1, ?_, p1, ⟨q1.nd, q1.mem⟩, by have := q1.len; simpa using this⟩
  have e0 : (⟨(A ++ B) ++ [.lst []], (A ++ B).length, false⟩ : Sto) = ⟨A ++ (B ++ [.lst (([] : List (Int × Int)).map tp2)]), (A ++ B).length, false⟩ := by rw [List.append_assoc]; rfl
  have mk0 : ∀ s : Sto, mkLst true [] s = .ok (.loc s.ob.length) { s with ob := s.ob ++ [.lst []] } := fun s => rfl
  have rp : (List.replicate (fEars.ns - fEars.np) (none : Option D)) = [none, none, none] := rfl
  have go : evSs ⟨run G (n + 1), G.fuel, none, G.sub⟩ fEars.body ([D.loc p, D.frz (.lst (l.map D.int)), D.int th].map some ++ List.replicate (fEars.ns - fEars.np) none) ⟨A ++ B, (A ++ B).length, false⟩ = .ok (.ret (.frz (.lst (es.map tp2)))) [some (.loc p), some (.frz (.lst (l.map D.int))), some (.int th), some (.loc (A ++ B).length), x1, y1] ⟨A1 ++ (B ++ [.dead]), (A ++ B).length, false⟩ := by
    show evSs _ (_ :: _ :: _ :: []) _ _ = _
    rw [seq_cons]
    simp only [evS, evE, evEs, List.map_cons, List.map_nil, List.cons_append, List.nil_append, rp, R.bind_ok, R.then_ok, mk0, asgTs, asgT, List.set_cons_succ, List.set_cons_zero, e0]
    rw [seq_cons, for_frz rfl s1]
    dsimp only
    rw [seq_cons]
    simp only [evS, evE, List.getElem?_cons_succ, List.getElem?_cons_zero, R.bind_ok, R.then_ok, fz_tps hm1]
  rw [go]
  exact fin_drop (lf_tps es) (by rw [p1.1, hp.1])
end Fn

set_option linter.all false
set_option maxRecDepth 100000
set_option maxHeartbeats 2000000
namespace Fn
/-! P15: a field. -/
def hk (x : Int) : GKey × D := (.one (.i x), .bl true)
def ek (q : Int × Int) : GKey × D := (.tp [.i q.1, .i q.2], .bl true)
def ffs (a c : Nat) : List (String × D) := [("folk", .loc a), ("pairs", .loc c)]
/-- the objects of a field -/
def FldB (m : Nat) (hs : List Int) (es : List (Int × Int)) : List Ob := [.ins "Field" (ffs (m + 1) (m + 2)), .dct false (hs.map hk), .dct true (es.map ek)]
/-- a field at l -/
structure FieldAt (ob : List Ob) (l a c : Nat) (hs : List Int) (es : List (Int × Int)) : Prop where
  ins : ob[l]? = some (.ins "Field" (ffs a c))
  folk : ob[a]? = some (.dct false (hs.map hk))
  pairs : ob[c]? = some (.dct true (es.map ek))
theorem fldB_at {X Y : List Ob} {m : Nat} {hs : List Int} {es : List (Int × Int)} (hm : m = X.length) : FieldAt (X ++ (FldB m hs es ++ Y)) m (m + 1) (m + 2) hs es := by
  subst hm
  have g : ∀ k, (X ++ (FldB X.length hs es ++ Y))[X.length + k]? = (FldB X.length hs es ++ Y)[k]? := fun k => by
    rw [List.getElem?_append_right (by omega)]
    congr 1
    omega
  exact ⟨g 0, g 1, g 2⟩
theorem FieldAt.mv {A A' B : List Ob} {l a c : Nat} {hs : List Int} {es : List (Int × Int)} (h : FieldAt (A ++ B) l a c hs es) (hA : A'.length = A.length) (h1 : A.length ≤ l) (h2 : A.length ≤ a) (h3 : A.length ≤ c) : FieldAt (A' ++ B) l a c hs es := by
  have g : ∀ k, A.length ≤ k → (A' ++ B)[k]? = (A ++ B)[k]? := fun k hk => by
    rw [List.getElem?_append_right (by omega), List.getElem?_append_right (by omega), hA]
  exact ⟨(g l h1).trans h.ins, (g a h2).trans h.folk, (g c h3).trans h.pairs⟩
theorem kget_h (x : Int) : ∀ hs : List Int, kget (hs.map hk) (.one (.i x)) = if x ∈ hs then some (.bl true) else none
  | [] => rfl
  | y :: hs => by
    show (if GKey.one (.i y) = .one (.i x) then some (D.bl true) else kget (hs.map hk) (.one (.i x))) = _
    by_cases h : y = x
    · subst h
      rw [if_pos rfl, if_pos List.mem_cons_self]
    · have n1 : ¬ GKey.one (.i y) = .one (.i x) := fun e => h (by injection e with e; injection e)
      rw [if_neg n1, kget_h x hs]
      have : x ∈ y :: hs ↔ x ∈ hs := by simp [Ne.symm h]
      simp only [this]
theorem kget_e (x y : Int) : ∀ es : List (Int × Int), kget (es.map ek) (.tp [.i x, .i y]) = if (x, y) ∈ es then some (.bl true) else none
  | [] => rfl
  | q :: es => by
    show (if GKey.tp [.i q.1, .i q.2] = .tp [.i x, .i y] then some (D.bl true) else kget (es.map ek) (.tp [.i x, .i y])) = _
    by_cases h : q = (x, y)
    · subst h
      rw [if_pos rfl, if_pos List.mem_cons_self]
    · have n1 : ¬ GKey.tp [.i q.1, .i q.2] = .tp [.i x, .i y] := fun e => h (by
        injection e with e
        injection e with e1 e2
        injection e2 with e2 _
        injection e1 with e1
        injection e2 with e2
        exact Prod.ext e1 e2)
      rw [if_neg n1, kget_e x y es]
      have : (x, y) ∈ q :: es ↔ (x, y) ∈ es := by simp [Ne.symm h]
      simp only [this]
theorem kput_new (kvs : List (GKey × D)) (k : GKey) (h : kget kvs k = none) (v : D) : kput kvs k v = kvs ++ [(k, v)] := by
  unfold kput
  have : ∀ kvs : List (GKey × D), kget kvs k = none → (kvs.any fun p => decide (p.1 = k)) = false := fun kvs => by
    induction kvs with
    | nil => intro _; rfl
    | cons p r ih =>
      intro h
      unfold kget at h
      by_cases hp : p.1 = k
      · rw [if_pos hp] at h; cases h
      · rw [if_neg hp] at h
        simp [hp, ih h]
  rw [this kvs h]
  rfl
theorem kput_h {hs : List Int} {x : Int} (h : x ∉ hs) : kput (hs.map hk) (.one (.i x)) (.bl true) = (hs ++ [x]).map hk := by
  rw [kput_new _ _ (by rw [kget_h, if_neg h]), List.map_append]
  rfl
/-- an ear more -/
def addE (acc : List (Int × Int)) (q : Int × Int) : List (Int × Int) := if q ∈ acc then acc else acc ++ [q]
theorem kput_e (es : List (Int × Int)) (x y : Int) : kput (es.map ek) (.tp [.i x, .i y]) (.bl true) = (addE es (x, y)).map ek := by
  unfold addE
  by_cases h : (x, y) ∈ es
  · rw [if_pos h]
    unfold kput
    have a1 : ((es.map ek).any fun p => decide (p.1 = GKey.tp [.i x, .i y])) = true := by
      rw [List.any_eq_true]
      exact ⟨_, List.mem_map.mpr ⟨_, h, rfl⟩, decide_eq_true rfl⟩
    rw [if_pos a1]
    have : ∀ l : List (Int × Int), (l.map ek).map (fun p => if p.1 = GKey.tp [.i x, .i y] then (p.1, D.bl true) else p) = l.map ek := fun l => by
      rw [List.map_map]
      refine List.map_congr_left fun q _ => ?_
      show (if (ek q).1 = _ then ((ek q).1, D.bl true) else ek q) = ek q
      split <;> rfl
    exact this es
  · rw [if_neg h, kput_new _ _ (by rw [kget_e, if_neg h]), List.map_append]
    rfl
section
variable {ob : List Ob} {l a c : Nat} {hs : List Int} {es : List (Int × Int)} {b : Nat} {e : Bool}
theorem FieldAt.insOf (h : FieldAt ob l a c hs es) : insOf (.loc l) ⟨ob, b, e⟩ = some ("Field", ffs a c) := by
  unfold Fn.insOf view
  simp only [h.ins, Option.map_some, Ob.unlk]
theorem FieldAt.fld1 (h : FieldAt ob l a c hs es) : fldOf ["Field"] (.loc l) "folk" ⟨ob, b, e⟩ = some (.loc a) := by
  unfold fldOf
  rw [h.insOf]
  rfl
theorem FieldAt.fld2 (h : FieldAt ob l a c hs es) : fldOf ["Field"] (.loc l) "pairs" ⟨ob, b, e⟩ = some (.loc c) := by
  unfold fldOf
  rw [h.insOf]
  rfl
theorem FieldAt.dct1 (h : FieldAt ob l a c hs es) : dctOf (.loc a) ⟨ob, b, e⟩ = some (false, hs.map hk) := by
  unfold dctOf view
  simp only [h.folk, Option.map_some, Ob.unlk]
theorem FieldAt.dct2 (h : FieldAt ob l a c hs es) : dctOf (.loc c) ⟨ob, b, e⟩ = some (true, es.map ek) := by
  unfold dctOf view
  simp only [h.pairs, Option.map_some, Ob.unlk]
theorem FieldAt.in1 (h : FieldAt ob l a c hs es) (x : Int) : inOf (.int x) (.loc a) ⟨ob, b, e⟩ = some (decide (x ∈ hs)) := by
  unfold inOf
  rw [h.dct1]
  show (if GKey.isT (.one (.i x)) = false then some (kget (hs.map hk) (.one (.i x))).isSome else none) = _
  rw [if_pos (show GKey.isT (.one (.i x)) = false from rfl), kget_h]
  by_cases q : x ∈ hs <;> simp [q]
theorem FieldAt.in2 (h : FieldAt ob l a c hs es) (x y : Int) : inOf (.tup [.int x, .int y]) (.loc c) ⟨ob, b, e⟩ = some (decide ((x, y) ∈ es)) := by
  unfold inOf
  rw [h.dct2]
  show (if GKey.isT (.tp [.i x, .i y]) = true then some (kget (es.map ek) (.tp [.i x, .i y])).isSome else none) = _
  rw [if_pos (show GKey.isT (.tp [.i x, .i y]) = true from rfl), kget_e]
  by_cases q : (x, y) ∈ es <;> simp [q]
theorem FieldAt.isin1 (h : FieldAt ob l a c hs es) (x : Int) : cmp .isin (.int x) (.loc a) ⟨ob, b, e⟩ = some (decide (x ∈ hs)) := h.in1 x
theorem FieldAt.notin1 (h : FieldAt ob l a c hs es) (x : Int) : cmp .notin (.int x) (.loc a) ⟨ob, b, e⟩ = some (!decide (x ∈ hs)) := by
  show (inOf (.int x) (.loc a) ⟨ob, b, e⟩).map (fun b => !b) = _
  rw [h.in1]
  rfl
theorem FieldAt.isin2 (h : FieldAt ob l a c hs es) (x y : Int) : cmp .isin (.tup [.int x, .int y]) (.loc c) ⟨ob, b, e⟩ = some (decide ((x, y) ∈ es)) := h.in2 x y
end
theorem ex_pure (s : Sto) (x : Xn) (env : Env) (h : D.lfF x.fs = true) : finR s (.ex x env { s with base := s.ob.length, esc := false }) = .ex x s := by
  show (if s.ob.length = s.ob.length then R.ex x (finB s (D.lfF x.fs) _) else .no) = _
  rw [if_pos rfl]
  unfold finB
  rw [if_pos ⟨h, rfl⟩]
  show R.ex x { ob := s.ob.take s.ob.length, base := s.base, esc := s.esc } = _
  rw [List.take_length]
/-- a def that ends without a word -/
theorem fin_next (s : Sto) (env : Env) : finR s (.ok .next env { s with base := s.ob.length, esc := false }) = .ok .non s := by
  show (if s.ob.length = s.ob.length then R.ok D.non (finB s true _) else .no) = _
  rw [if_pos rfl]
  unfold finB
  rw [if_pos ⟨rfl, rfl⟩]
  show R.ok _ { ob := s.ob.take s.ob.length, base := s.base, esc := s.esc } = _
  rw [List.take_length]
def fCheck : Fd := ⟨2, 2, [
    .ifs (.cmp .notin (.var 1) (.fld ["Field"] (.var 0) "folk")) [.raise "NoHouse" ["house"] [.var 1]] []]⟩
def fCheckEar : Fd := ⟨3, 3, [
    .exp (.meth "Field" "check" (.var 0) [.var 1] [] [] [.pos 0]),
    .exp (.meth "Field" "check" (.var 0) [.var 2] [] [] [.pos 0]),
    .ifs (.cmp .eq (.var 1) (.var 2)) [.raise "NoEar" ["speaker", "listener"] [.var 1, .var 2]] []]⟩
theorem sCheck : "Field" ++ "." ++ "check" = "Field.check" := by decide
theorem sCheckEar : "Field" ++ "." ++ "check_ear" = "Field.check_ear" := by decide
def noHouse (x : Int) : Xn := ⟨"NoHouse", [("house", .int x)]⟩
theorem check_run (G : Pg) (h : G.fn "Field.check" = some fCheck) (n : Nat) (l a c : Nat) (hs : List Int) (es : List (Int × Int)) (x : Int) (s : Sto) (F : FieldAt s.ob l a c hs es) :
    run G (n + 1) "Field.check" [.loc l, .int x] s = if x ∈ hs then .ok .non s else .ex (noHouse x) s := by
  rw [run_eq G n _ _ h _ _ rfl (by decide)]
  have rp : (List.replicate (fCheck.ns - fCheck.np) (none : Option D)) = [] := rfl
  by_cases hx : x ∈ hs
  · rw [if_pos hx, ← fin_next s [some (.loc l), some (.int x)]]
    refine congrArg (finR s) ?_
    have d1 : decide (x ∈ hs) = true := decide_eq_true hx
    simp only [fCheck, evSs, evS, evE, List.map_cons, List.map_nil, List.cons_append, List.nil_append, List.getElem?_cons_succ, List.getElem?_cons_zero, R.bind_ok, R.then_ok, F.fld1, F.notin1, d1, at?_some, Option.map_some, truth_bl, Bool.not_true]
    rfl
  · rw [if_neg hx, ← ex_pure s (noHouse x) [some (.loc l), some (.int x)] rfl]
    refine congrArg (finR s) ?_
    have d1 : decide (x ∈ hs) = false := decide_eq_false hx
    simp only [fCheck, evSs, evS, evE, evEs, List.map_cons, List.map_nil, List.cons_append, List.nil_append, List.getElem?_cons_succ, List.getElem?_cons_zero, R.bind_ok, R.then_ok, F.fld1, F.notin1, d1, at?_some, Option.map_some, truth_bl, Bool.not_false]
    rfl
/-- what is refused of an ear -/
def earX (hs : List Int) (x y : Int) : Option Xn := if x ∈ hs then if y ∈ hs then if x = y then some ⟨"NoEar", [("speaker", .int x), ("listener", .int y)]⟩ else none else some (noHouse y) else some (noHouse x)
def orX (o : Option Xn) (d : D) (s : Sto) : R D := match o with
  | some x => .ex x s
  | none => .ok d s
theorem checkear_run (G : Pg) (h : G.fn "Field.check_ear" = some fCheckEar) (hc : G.fn "Field.check" = some fCheck) (n : Nat) (l a c : Nat) (hs : List Int) (es : List (Int × Int)) (x y : Int) (s : Sto) (F : FieldAt s.ob l a c hs es) :
    run G (n + 2) "Field.check_ear" [.loc l, .int x, .int y] s = orX (earX hs x y) .non s := by
  rw [run_eq G (n + 1) _ _ h _ _ rfl (by decide)]
  have rp : (List.replicate (fCheckEar.ns - fCheckEar.np) (none : Option D)) = [] := rfl
  have c1 := fun z => check_run G hc n l a c hs es z ⟨s.ob, s.ob.length, false⟩ F
  have F' : FieldAt (⟨s.ob, s.ob.length, false⟩ : Sto).ob l a c hs es := F
  have fg : fget (ffs a c) "check" = none := rfl
  unfold earX orX
  by_cases hx : x ∈ hs
  · have c1x := (c1 x).trans (if_pos hx)
    by_cases hy : y ∈ hs
    · have c1y := (c1 y).trans (if_pos hy)
      rw [if_pos hx, if_pos hy]
      by_cases hxy : x = y
      · rw [if_pos hxy]
        have d1 : decide (x = y) = true := decide_eq_true hxy
        refine Eq.trans ?_ (ex_pure s _ [some (.loc l), some (.int x), some (.int y)] rfl)
        refine congrArg (finR s) ?_
        simp only [fCheckEar, evSs, evS, evE, evEs, List.map_cons, List.map_nil, List.cons_append, List.nil_append, List.getElem?_cons_succ, List.getElem?_cons_zero, R.bind_ok, R.then_ok, F'.insOf, fg, and_self, if_true, srcs, Src.get, sCheck, c1x, c1y, eqI, d1, at?_some, Option.map_some, truth_bl]
        rfl
      · rw [if_neg hxy]
        have d1 : decide (x = y) = false := decide_eq_false hxy
        refine Eq.trans ?_ (fin_next s [some (.loc l), some (.int x), some (.int y)])
        refine congrArg (finR s) ?_
        simp only [fCheckEar, evSs, evS, evE, evEs, List.map_cons, List.map_nil, List.cons_append, List.nil_append, List.getElem?_cons_succ, List.getElem?_cons_zero, R.bind_ok, R.then_ok, F'.insOf, fg, and_self, if_true, srcs, Src.get, sCheck, c1x, c1y, eqI, d1, at?_some, Option.map_some, truth_bl]
        rfl
    · have c1y := (c1 y).trans (if_neg hy)
      rw [if_pos hx, if_neg hy]
      refine Eq.trans ?_ (ex_pure s _ [some (.loc l), some (.int x), some (.int y)] rfl)
      refine congrArg (finR s) ?_
      simp only [fCheckEar, evSs, evS, evE, evEs, List.map_cons, List.map_nil, List.cons_append, List.nil_append, List.getElem?_cons_succ, List.getElem?_cons_zero, R.bind_ok, R.then_ok, F'.insOf, fg, and_self, if_true, srcs, Src.get, sCheck, c1x, c1y, R.bind_ex, R.then_ex]
      rfl
  · have c1x := (c1 x).trans (if_neg hx)
    rw [if_neg hx]
    refine Eq.trans ?_ (ex_pure s _ [some (.loc l), some (.int x), some (.int y)] rfl)
    refine congrArg (finR s) ?_
    simp only [fCheckEar, evSs, evS, evE, evEs, List.map_cons, List.map_nil, List.cons_append, List.nil_append, List.getElem?_cons_succ, List.getElem?_cons_zero, R.bind_ok, R.then_ok, F'.insOf, fg, and_self, if_true, srcs, Src.get, sCheck, c1x, R.bind_ex, R.then_ex]
    rfl
end Fn

set_option linter.all false
set_option maxRecDepth 100000
set_option maxHeartbeats 2000000
namespace Fn
/-! P16: Field.__init__. -/
def initB1 : List MS := [.ifs (.not (.chain .le .le (.cst (.int 1)) (.var 4) (.glb "MOST_NUMBER" (.int 1000000000)))) [.raise "BadNumber" [] [.cst (.str [97, 32, 104, 111, 117, 115, 101, 39, 115, 32, 110, 117, 109, 98, 101, 114])]] [], .ifs (.cmp .isin (.var 4) (.fld ["Field"] (.var 0) "folk")) [.raise "Twice" ["house"] [.var 4]] [], .asg [.ix (.fld ["Field"] (.var 0) "folk") (.var 4)] (.cst (.bl true))]
def initB2 : List MS := [.exp (.meth "Field" "check_ear" (.var 0) [.var 5, .var 6] [] [] [.pos 0, .pos 1]), .asg [.ix (.fld ["Field"] (.var 0) "pairs") (.tup [.var 5, .var 6])] (.cst (.bl true)), .ifs (.var 3) [.asg [.ix (.fld ["Field"] (.var 0) "pairs") (.tup [.var 6, .var 5])] (.cst (.bl true))] []]
def fInit : Fd := ⟨4, 7, [
    .ifs (.cmp .gt (.blt .len false [.var 1]) (.glb "MOST_HOUSES" (.int 40))) [.raise "TooMany" ["bound"] [.glb "MOST_HOUSES" (.int 40)]] [],
    .asg [.fl ["Field"] (.var 0) "folk"] (.dct true false [] []),
    .asg [.fl ["Field"] (.var 0) "pairs"] (.dct true true [] []),
    .for (.nm 4) (.itl (.var 1)) initB1,
    .for (.tp [.nm 5, .nm 6]) (.itl (.var 2)) initB2]⟩
theorem unlock_nil (r : RS) : r.unlock [] = r := by cases r <;> rfl
theorem for_itl {C : Ctx} {t : Tgt} {i : Nat} {bd : List MS} {d : D} {ds : List D} {env : Env} {s : Sto} {r : RS} (h : env[i]? = some (some d)) (hs : seqOf d s = some ds) (hl : lockOf d = [])
    (q : forL (fun d env s => match bindT 3 t d s env with
        | some env => evSs C bd env s
        | none => .no) ds env s = r) : evS C (.for t (.itl (.var i)) bd) env s = r := by
  have e1 : evI C (.itl (.var i)) env s = .ok (ds, []) s := by
    simp only [evI, evE, h, R.bind_ok, hs, hl]
  simp only [evS, e1, R.then_ok, lockAll]
  erw [q]
  exact unlock_nil r
section
variable {X Y : List Ob} {m : Nat} {hs : List Int} {es : List (Int × Int)} {b : Nat} {e : Bool}
theorem fldB_end (hm : m = X.length) : FieldAt (X ++ FldB m hs es) m (m + 1) (m + 2) hs es := by
  have := fldB_at (X := X) (Y := []) (hs := hs) (es := es) hm
  rwa [List.append_nil] at this
theorem set_fld (hm : m = X.length) (k : Nat) (o : Ob) : (X ++ FldB m hs es).set (m + k) o = X ++ (FldB m hs es).set k o := by
  rw [List.set_append_right _ _ (by omega)]
  have : m + k - X.length = k := by omega
  rw [this]
theorem put_h (hm : m = X.length) (x : Int) (hx : x ∉ hs) (hl : hs.length ≤ 100) : putIx (.loc (m + 1)) (.int x) (.bl true) ⟨X ++ FldB m hs es, b, e⟩ = .ok () ⟨X ++ FldB m (hs ++ [x]) es, b, e⟩ := by
  have F := fldB_end (X := X) (hs := hs) (es := es) hm
  unfold putIx
  simp only [F.folk]
  show (if GKey.isT (.one (.i x)) = false ∧ (hs.map hk).length < lenLine then R.ok () (Sto.put ⟨X ++ FldB m hs es, b, e⟩ (m + 1) (.dct false (kput (hs.map hk) (.one (.i x)) (.bl true))) (.bl true)) else .no) = _
  rw [if_pos ⟨rfl, by rw [List.length_map]; exact Nat.lt_of_le_of_lt hl (by decide)⟩, kput_h hx]
  unfold Sto.put
  rw [set_fld hm]
  simp [D.lf, FldB]
theorem put_e (hm : m = X.length) (x y : Int) (hl : es.length ≤ 100000) : putIx (.loc (m + 2)) (.tup [.int x, .int y]) (.bl true) ⟨X ++ FldB m hs es, b, e⟩ = .ok () ⟨X ++ FldB m hs (addE es (x, y)), b, e⟩ := by
  have F := fldB_end (X := X) (hs := hs) (es := es) hm
  unfold putIx
  simp only [F.pairs]
  show (if GKey.isT (.tp [.i x, .i y]) = true ∧ (es.map ek).length < lenLine then R.ok () (Sto.put ⟨X ++ FldB m hs es, b, e⟩ (m + 2) (.dct true (kput (es.map ek) (.tp [.i x, .i y]) (.bl true))) (.bl true)) else .no) = _
  rw [if_pos ⟨rfl, by rw [List.length_map]; exact Nat.lt_of_le_of_lt hl (by decide)⟩, kput_e]
  unfold Sto.put
  rw [set_fld hm]
  simp [D.lf, FldB]
end
def houseX (done : List Int) : List Int → Option Xn
  | [] => none
  | x :: r => if 1 ≤ x ∧ x ≤ 1000000000 then if x ∈ done then some ⟨"Twice", [("house", .int x)]⟩ else houseX (done ++ [x]) r else some ⟨"BadNumber", []⟩
theorem leC (a b : Int) (s : Sto) : cmp .le (.int a) (.int b) s = some (decide (a ≤ b)) := rfl
theorem house_step (C : Ctx) (X : List Ob) (m B : Nat) (hd ed bo y5 y6 : Option D) (x : Int) (done : List Int) (hm : m = X.length) (hl : done.length ≤ 100) :
    evSs C initB1 [some (.loc m), hd, ed, bo, some (.int x), y5, y6] ⟨X ++ FldB m done [], B, true⟩ = match houseX done [x] with
      | none => .ok .next [some (.loc m), hd, ed, bo, some (.int x), y5, y6] ⟨X ++ FldB m (done ++ [x]) [], B, true⟩
      | some xn => .ex xn [some (.loc m), hd, ed, bo, some (.int x), y5, y6] ⟨X ++ FldB m done [], B, true⟩ := by
  have F := fldB_end (X := X) (hs := done) (es := []) hm
  unfold houseX
  by_cases h1 : 1 ≤ x
  · have d1 : decide (1 ≤ x) = true := decide_eq_true h1
    by_cases h2 : x ≤ 1000000000
    · have d2 : decide (x ≤ 1000000000) = true := decide_eq_true h2
      rw [if_pos ⟨h1, h2⟩]
      by_cases h3 : x ∈ done
      · have d3 : decide (x ∈ done) = true := decide_eq_true h3
        rw [if_pos h3]
        simp only [initB1, evSs, evS, evE, evEs, List.getElem?_cons_succ, List.getElem?_cons_zero, R.bind_ok, R.then_ok, leC, d1, d2, d3, at?_some, Option.map_some, truth_bl, Bool.not_true, F.fld1, F.isin1]
        rfl
      · have d3 : decide (x ∈ done) = false := decide_eq_false h3
        rw [if_neg h3]
        have p := put_h (X := X) (m := m) (hs := done) (es := []) (b := B) (e := true) hm x h3 hl
        simp only [initB1, evSs, evS, evE, evEs, List.getElem?_cons_succ, List.getElem?_cons_zero, R.bind_ok, R.then_ok, leC, d1, d2, d3, at?_some, Option.map_some, truth_bl, Bool.not_true, F.fld1, F.isin1, asgTs, asgT, p, houseX]
    · have d2 : decide (x ≤ 1000000000) = false := decide_eq_false h2
      rw [if_neg (fun h => h2 h.2)]
      simp only [initB1, evSs, evS, evE, evEs, List.getElem?_cons_succ, List.getElem?_cons_zero, R.bind_ok, R.then_ok, leC, d1, d2, at?_some, Option.map_some, truth_bl, Bool.not_false]
      rfl
  · have d1 : decide (1 ≤ x) = false := decide_eq_false h1
    rw [if_neg (fun h => h1 h.1)]
    simp only [initB1, evSs, evS, evE, evEs, List.getElem?_cons_succ, List.getElem?_cons_zero, R.bind_ok, R.then_ok, leC, d1, at?_some, Option.map_some, truth_bl, Bool.not_false]
    rfl
theorem houses_loop (X : List Ob) (m B : Nat) (hd ed bo y5 y6 : Option D) (hm : m = X.length) (C : Ctx) (F : D → Env → Sto → RS)
    (hF : ∀ (x : Int) (y : Option D) (s : Sto), F (.int x) [some (.loc m), hd, ed, bo, y, y5, y6] s = evSs C initB1 [some (.loc m), hd, ed, bo, some (.int x), y5, y6] s) :
    ∀ (rest done : List Int) (y : Option D), done.length + rest.length ≤ 100 → ∃ y' d', forL F (rest.map D.int) [some (.loc m), hd, ed, bo, y, y5, y6] ⟨X ++ FldB m done [], B, true⟩ = match houseX done rest with
      | none => .ok .next [some (.loc m), hd, ed, bo, y', y5, y6] ⟨X ++ FldB m (done ++ rest) [], B, true⟩
      | some xn => .ex xn [some (.loc m), hd, ed, bo, y', y5, y6] ⟨X ++ FldB m d' [], B, true⟩
  | [], done, y, hl => ⟨y, done, by simp [houseX, forL]⟩
  | x :: rest, done, y, hl => by
    have st := house_step C X m B hd ed bo y5 y6 x done hm (by omega)
    obtain ⟨y', d', ih⟩ := houses_loop X m B hd ed bo y5 y6 hm C F hF rest (done ++ [x]) (some (.int x)) (by rw [List.length_append]; simp at hl ⊢; omega)
    have un : forL F ((x :: rest).map D.int) [some (.loc m), hd, ed, bo, y, y5, y6] ⟨X ++ FldB m done [], B, true⟩ = (match evSs C initB1 [some (.loc m), hd, ed, bo, some (.int x), y5, y6] ⟨X ++ FldB m done [], B, true⟩ with | .ok .next env s => forL F (rest.map D.int) env s | r => r) := by
      rw [← hF x y]
      rfl
    rw [un, st]
    unfold houseX
    by_cases h1 : 1 ≤ x ∧ x ≤ 1000000000
    · rw [if_pos h1, if_pos h1]
      by_cases h2 : x ∈ done
      · rw [if_pos h2, if_pos h2]
        exact ⟨some (.int x), done, rfl⟩
      · rw [if_neg h2, if_neg h2]
        refine ⟨y', d', ?_⟩
        have e : done ++ x :: rest = (done ++ [x]) ++ rest := by simp
        rw [e]
        exact ih
    · rw [if_neg h1, if_neg h1]
      exact ⟨some (.int x), done, rfl⟩
def earsX (hs : List Int) : List (Int × Int) → Option Xn
  | [] => none
  | q :: r => match earX hs q.1 q.2 with
    | some x => some x
    | none => earsX hs r
def earAdd (both : Bool) (acc : List (Int × Int)) (q : Int × Int) : List (Int × Int) := if both = true then addE (addE acc q) (q.2, q.1) else addE acc q
theorem addE_len (acc : List (Int × Int)) (q : Int × Int) : (addE acc q).length ≤ acc.length + 1 := by
  unfold addE
  split
  · omega
  · simp
theorem earAdd_len (both : Bool) (acc : List (Int × Int)) (q : Int × Int) : (earAdd both acc q).length ≤ acc.length + 2 := by
  unfold earAdd
  have h1 := addE_len acc q
  have h2 := addE_len (addE acc q) (q.2, q.1)
  split <;> omega
theorem ear_step (G : Pg) (h : G.fn "Field.check_ear" = some fCheckEar) (hc : G.fn "Field.check" = some fCheck) (n : Nat) (X : List Ob) (m B : Nat) (hd ed : Option D) (bo : Bool) (y4 : Option D) (q : Int × Int) (hs : List Int) (acc : List (Int × Int)) (hm : m = X.length) (hl : acc.length ≤ 99990) :
    evSs ⟨run G (n + 2), G.fuel, none, G.sub⟩ initB2 [some (.loc m), hd, ed, some (.bl bo), y4, some (.int q.1), some (.int q.2)] ⟨X ++ FldB m hs acc, B, true⟩ = match earX hs q.1 q.2 with
      | none => .ok .next [some (.loc m), hd, ed, some (.bl bo), y4, some (.int q.1), some (.int q.2)] ⟨X ++ FldB m hs (earAdd bo acc q), B, true⟩
      | some xn => .ex xn [some (.loc m), hd, ed, some (.bl bo), y4, some (.int q.1), some (.int q.2)] ⟨X ++ FldB m hs acc, B, true⟩ := by
  have F := fldB_end (X := X) (hs := hs) (es := acc) hm
  have c1 := checkear_run G h hc n m (m + 1) (m + 2) hs acc q.1 q.2 ⟨X ++ FldB m hs acc, B, true⟩ F
  have fg : fget (ffs (m + 1) (m + 2)) "check_ear" = none := rfl
  cases hq : earX hs q.1 q.2 with
  | some xn =>
    rw [hq] at c1
    simp only [initB2, evSs, evS, evE, evEs, List.getElem?_cons_succ, List.getElem?_cons_zero, R.bind_ok, R.then_ok, F.insOf, fg, and_self, if_true, srcs, Src.get, sCheckEar, c1, orX, R.bind_ex, R.then_ex]
  | none =>
    rw [hq] at c1
    have p1 := put_e (X := X) (m := m) (hs := hs) (es := acc) (b := B) (e := true) hm q.1 q.2 (by omega)
    have hl2 := addE_len acc (q.1, q.2)
    have p2 := put_e (X := X) (m := m) (hs := hs) (es := addE acc (q.1, q.2)) (b := B) (e := true) hm q.2 q.1 (by omega)
    have F2 := fldB_end (X := X) (hs := hs) (es := addE acc (q.1, q.2)) hm
    cases bo <;>
    simp only [initB2, evSs, evS, evE, evEs, List.getElem?_cons_succ, List.getElem?_cons_zero, R.bind_ok, R.then_ok, F.insOf, fg, and_self, if_true, srcs, Src.get, sCheckEar, c1, orX, F.fld2, F2.fld2, at?_some, asgTs, asgT, p1, p2, truth_bl] <;> rfl
theorem init_ears (G : Pg) (h : G.fn "Field.check_ear" = some fCheckEar) (hc : G.fn "Field.check" = some fCheck) (n : Nat) (X : List Ob) (m B : Nat) (hd ed : Option D) (bo : Bool) (y4 : Option D) (hs : List Int) (hm : m = X.length) (F : D → Env → Sto → RS)
    (hF : ∀ (q : Int × Int) (y5 y6 : Option D) (s : Sto), F (tp2 q) [some (.loc m), hd, ed, some (.bl bo), y4, y5, y6] s = evSs ⟨run G (n + 2), G.fuel, none, G.sub⟩ initB2 [some (.loc m), hd, ed, some (.bl bo), y4, some (.int q.1), some (.int q.2)] s) :
    ∀ (rest acc : List (Int × Int)) (y5 y6 : Option D), acc.length + 2 * rest.length ≤ 99990 → ∃ y5' y6' a', forL F (rest.map tp2) [some (.loc m), hd, ed, some (.bl bo), y4, y5, y6] ⟨X ++ FldB m hs acc, B, true⟩ = match earsX hs rest with
      | none => .ok .next [some (.loc m), hd, ed, some (.bl bo), y4, y5', y6'] ⟨X ++ FldB m hs (rest.foldl (earAdd bo) acc), B, true⟩
      | some xn => .ex xn [some (.loc m), hd, ed, some (.bl bo), y4, y5', y6'] ⟨X ++ FldB m hs a', B, true⟩
  | [], acc, y5, y6, hl => ⟨y5, y6, acc, by simp [earsX, forL]⟩
  | q :: rest, acc, y5, y6, hl => by
    rw [List.length_cons] at hl
    have st := ear_step G h hc n X m B hd ed bo y4 q hs acc hm (by omega)
    have hl2 := earAdd_len bo acc q
    obtain ⟨y5', y6', a', ih⟩ := init_ears G h hc n X m B hd ed bo y4 hs hm F hF rest (earAdd bo acc q) (some (.int q.1)) (some (.int q.2)) (by omega)
    have un : forL F ((q :: rest).map tp2) [some (.loc m), hd, ed, some (.bl bo), y4, y5, y6] ⟨X ++ FldB m hs acc, B, true⟩ = (match evSs ⟨run G (n + 2), G.fuel, none, G.sub⟩ initB2 [some (.loc m), hd, ed, some (.bl bo), y4, some (.int q.1), some (.int q.2)] ⟨X ++ FldB m hs acc, B, true⟩ with | .ok .next env s => forL F (rest.map tp2) env s | r => r) := by
      rw [← hF q y5 y6]
      rfl
    rw [un, st]
    unfold earsX
    cases hq : earX hs q.1 q.2 with
    | some xn => exact ⟨some (.int q.1), some (.int q.2), acc, rfl⟩
    | none => exact ⟨y5', y6', a', ih⟩
/-- what Field(..) refuses -/
def fieldX (hs : List Int) (es : List (Int × Int)) : Option Xn := if 40 < hs.length then some ⟨"TooMany", [("bound", .int 40)]⟩ else match houseX [] hs with
  | some x => some x
  | none => earsX hs es
theorem init_run (G : Pg) (hi : G.fn "Field.__init__" = some fInit) (h : G.fn "Field.check_ear" = some fCheckEar) (hc : G.fn "Field.check" = some fCheck) (n : Nat) (X : List Ob) (b : Nat) (e : Bool) (hd ed : D) (bo : Bool) (hs : List Int) (es : List (Int × Int))
    (h1 : ∀ s, seqOf hd s = some (hs.map D.int)) (h2 : ∀ s, bltE .len false [hd] s = .ok (.int hs.length) s) (h3 : lockOf hd = []) (h4 : ∀ s, seqOf ed s = some (es.map tp2)) (h5 : lockOf ed = []) (he : es.length ≤ 40000) :
    ∃ Y e', run G (n + 3) "Field.__init__" [.loc X.length, hd, ed, .bl bo] ⟨X ++ [.ins "Field" []], b, e⟩ = match fieldX hs es with
      | none => .ok .non ⟨X ++ FldB X.length hs (es.foldl (earAdd bo) []), b, true⟩
      | some xn => .ex xn ⟨X ++ Y, b, e'⟩ := by
  rw [run_eq G (n + 2) _ _ hi _ _ rfl (by decide)]
  have rp : (List.replicate (fInit.ns - fInit.np) (none : Option D)) = [none, none, none] := rfl
  have gt : ∀ s, cmp .gt (.int (hs.length : Int)) (.int 40) s = some (decide (40 < hs.length)) := fun s => by
    show some (decide ((40 : Int) < (hs.length : Int))) = _
    exact congrArg some (decide_eq_decide.mpr (by omega))
  unfold fieldX
  have esc_ok : ∀ (f : Flow) (env : Env) (Z : List Ob), f = .next → finR ⟨X ++ [.ins "Field" []], b, e⟩ (.ok f env ⟨Z, (X ++ [Ob.ins "Field" []]).length, true⟩) = .ok .non ⟨Z, b, true⟩ := fun f env Z hf => by
    subst hf
    show (if (X ++ [Ob.ins "Field" []]).length = (X ++ [Ob.ins "Field" []]).length then R.ok D.non (finB ⟨X ++ [.ins "Field" []], b, e⟩ true ⟨Z, (X ++ [Ob.ins "Field" []]).length, true⟩) else .no) = _
    rw [if_pos rfl]
    unfold finB
    rw [if_neg (by intro h; cases h.2)]
    simp
  have esc_ex : ∀ (x : Xn) (env : Env) (Z : List Ob), finR ⟨X ++ [.ins "Field" []], b, e⟩ (.ex x env ⟨Z, (X ++ [Ob.ins "Field" []]).length, true⟩) = .ex x ⟨Z, b, true⟩ := fun x env Z => by
    show (if (X ++ [Ob.ins "Field" []]).length = (X ++ [Ob.ins "Field" []]).length then R.ex x (finB ⟨X ++ [.ins "Field" []], b, e⟩ _ ⟨Z, (X ++ [Ob.ins "Field" []]).length, true⟩) else .no) = _
    rw [if_pos rfl]
    unfold finB
    rw [if_neg (by intro h; cases h.2)]
    simp
  by_cases hq : 40 < hs.length
  · refine ⟨[.ins "Field" []], e, ?_⟩
    rw [if_pos hq]
    have d1 : decide (40 < hs.length) = true := decide_eq_true hq
    refine Eq.trans ?_ (ex_pure ⟨X ++ [.ins "Field" []], b, e⟩ _ [some (.loc X.length), some hd, some ed, some (.bl bo), none, none, none] rfl)
    refine congrArg (finR _) ?_
    simp only [fInit, evSs, evS, evE, evEs, rp, List.map_cons, List.map_nil, List.cons_append, List.nil_append, List.getElem?_cons_succ, List.getElem?_cons_zero, R.bind_ok, R.then_ok, h2, gt, d1, at?_some, Option.map_some, truth_bl]
    rfl
  · rw [if_neg hq]
    have d1 : decide (40 < hs.length) = false := decide_eq_false hq
    obtain ⟨y', d', l1⟩ := houses_loop X X.length (X ++ [Ob.ins "Field" []]).length (some hd) (some ed) (some (.bl bo)) none none rfl ⟨run G (n + 2), G.fuel, none, G.sub⟩ (fun d env s => match bindT 3 (.nm 4) d s env with
        | some env => evSs ⟨run G (n + 2), G.fuel, none, G.sub⟩ initB1 env s
        | none => .no) (fun x y s => rfl) hs [] none (by simp; omega)
    -- the two fields
    have go : evSs ⟨run G (n + 2), G.fuel, none, G.sub⟩ fInit.body ([D.loc X.length, hd, ed, .bl bo].map some ++ List.replicate (fInit.ns - fInit.np) none) ⟨X ++ [.ins "Field" []], (X ++ [Ob.ins "Field" []]).length, false⟩ = evSs ⟨run G (n + 2), G.fuel, none, G.sub⟩ [.for (.nm 4) (.itl (.var 1)) initB1, .for (.tp [.nm 5, .nm 6]) (.itl (.var 2)) initB2] [some (.loc X.length), some hd, some ed, some (.bl bo), none, none, none] ⟨X ++ FldB X.length [] [], (X ++ [Ob.ins "Field" []]).length, true⟩ := by
      have s0 : ∀ (o1 : Ob) (Z : List Ob), (X ++ o1 :: Z)[X.length]? = some o1 := fun o1 Z => by rw [List.getElem?_append_right (Nat.le_refl _), Nat.sub_self]; rfl
      have t0 : ∀ (o1 o2 : Ob) (Z : List Ob), (X ++ o1 :: Z).set X.length o2 = X ++ o2 :: Z := fun o1 o2 Z => by rw [List.set_append_right _ _ (Nat.le_refl _), Nat.sub_self]; rfl
      have w1 : ∀ (fs : List (String × D)) (Z : List Ob) (f : String) (v : D) (B : Nat) (ee : Bool), fs.length < 900 → X.length < B → v.lf = false → putFldC ["Field"] (.loc X.length) f v ⟨X ++ .ins "Field" fs :: Z, B, ee⟩ = .ok () ⟨X ++ .ins "Field" (fput fs f v) :: Z, B, true⟩ := fun fs Z f v B ee hf hB hv => by
        have i1 : insOf (.loc X.length) ⟨X ++ .ins "Field" fs :: Z, B, ee⟩ = some ("Field", fs) := by
          unfold insOf view
          simp only [s0, Option.map_some, Ob.unlk]
        unfold putFldC
        rw [i1]
        show (if "Field" ∈ ["Field"] then putFld _ _ _ _ else .no) = _
        rw [if_pos (List.mem_singleton.mpr rfl)]
        unfold putFld
        simp only [s0]
        rw [if_pos hf]
        unfold Sto.put
        simp only [t0, decide_eq_true hB, hv]
        simp
      have mk : ∀ t (Z : List Ob) (B : Nat) (ee : Bool), mkOb true (.dct t []) ⟨X ++ Z, B, ee⟩ = .ok (.loc (X ++ Z).length) ⟨X ++ (Z ++ [.dct t []]), B, ee⟩ := fun t Z B ee => by
        show R.ok _ _ = _
        simp [List.append_assoc]
      have hB : X.length < (X ++ [Ob.ins "Field" []]).length := by simp
      have q1 : ∀ (B : Nat) (ee : Bool) (env : Env), X.length < B → env[0]? = some (some (.loc X.length)) → evS ⟨run G (n + 2), G.fuel, none, G.sub⟩ (.asg [.fl ["Field"] (.var 0) "folk"] (.dct true false [] [])) env ⟨X ++ [.ins "Field" []], B, ee⟩ = .ok .next env ⟨X ++ [.ins "Field" [("folk", .loc (X.length + 1))], .dct false []], B, true⟩ := fun B ee env hB he => by
        have w := w1 [] [.dct false []] "folk" (.loc (X.length + 1)) B ee (by decide) hB rfl
        have ml : (X ++ [Ob.ins "Field" []]).length = X.length + 1 := by simp
        simp only [evS, evE, evEs, R.bind_ok, putAll, List.all_nil, List.length_nil, Nat.zero_le, and_self, if_true, mk, ml, R.then_ok, asgTs, asgT, he, List.cons_append, List.nil_append, w, fput]
      have q2 : ∀ (B : Nat) (ee : Bool) (env : Env), X.length < B → env[0]? = some (some (.loc X.length)) → evS ⟨run G (n + 2), G.fuel, none, G.sub⟩ (.asg [.fl ["Field"] (.var 0) "pairs"] (.dct true true [] [])) env ⟨X ++ [.ins "Field" [("folk", .loc (X.length + 1))], .dct false []], B, ee⟩ = .ok .next env ⟨X ++ FldB X.length [] [], B, true⟩ := fun B ee env hB he => by
        have w := w1 [("folk", .loc (X.length + 1))] [.dct false [], .dct true []] "pairs" (.loc (X.length + 2)) B ee (by show 1 < 900; decide) hB rfl
        have ml : (X ++ [Ob.ins "Field" [("folk", .loc (X.length + 1))], .dct false []]).length = X.length + 2 := by simp
        simp only [evS, evE, evEs, R.bind_ok, putAll, List.all_nil, List.length_nil, Nat.zero_le, and_self, if_true, mk, ml, R.then_ok, asgTs, asgT, he, List.cons_append, List.nil_append, w, fput]
        rfl
      show evSs _ (_ :: _ :: _ :: [_, _]) _ _ = _
      rw [seq_cons]
      simp only [evS, evE, evEs, rp, List.map_cons, List.map_nil, List.cons_append, List.nil_append, List.getElem?_cons_succ, List.getElem?_cons_zero, R.bind_ok, R.then_ok, h2, gt, d1, at?_some, Option.map_some, truth_bl]
      show evSs _ (_ :: _ :: [_, _]) _ _ = _
      rw [seq_cons, q1 _ _ _ hB rfl]
      dsimp only
      rw [seq_cons, q2 _ _ _ hB rfl]
    rw [go, seq_cons, for_itl rfl (h1 _) h3 l1]
    cases hx : houseX [] hs with
    | some xn => exact ⟨FldB X.length d' [], true, esc_ex _ _ _⟩
    | none =>
      dsimp only
      obtain ⟨y5', y6', a', l2⟩ := init_ears G h hc n X X.length (X ++ [Ob.ins "Field" []]).length (some hd) (some ed) bo y' hs rfl (fun d env s => match bindT 3 (.tp [.nm 5, .nm 6]) d s env with
        | some env => evSs ⟨run G (n + 2), G.fuel, none, G.sub⟩ initB2 env s
        | none => .no) (fun q y5 y6 s => rfl) es [] none none (by simp; omega)
      rw [seq_cons, List.nil_append, for_itl rfl (h4 _) h5 l2]
      cases hx : earsX hs es with
      | some xn => exact ⟨FldB X.length hs a', true, esc_ex _ _ _⟩
      | none => exact ⟨[], true, esc_ok _ _ _ rfl⟩
end Fn

set_option linter.all false
set_option maxRecDepth 100000
set_option maxHeartbeats 2000000
namespace Fn
/-! P17: comprehensions without deeds, sorted ints, `_law_same` of a value with itself; whom a house hears. -/
theorem lcL_filt {α : Type} (F : D → Sto → R (List D)) (g : α → D) (p : α → Bool) (f : α → D) (s : Sto) : ∀ xs : List α, (∀ x ∈ xs, F (g x) s = .ok (if p x = true then [f x] else []) s) → lcL F (xs.map g) s = .ok ((xs.filter p).map f) s
  | [], _ => rfl
  | x :: xs, h => by
    show (F (g x) s).bind (fun ys s => (lcL F (xs.map g) s).bind fun zs s => .ok (ys ++ zs) s) = _
    rw [h x List.mem_cons_self]
    simp only [R.bind_ok]
    rw [lcL_filt F g p f s xs fun y hy => h y (List.mem_cons_of_mem _ hy)]
    simp only [R.bind_ok, List.filter_cons]
    cases p x <;> rfl
/-- a comprehension of one clause whose items do nothing -/
theorem lc_gen {C : Ctx} {m : Bool} {own : List Nat} {t : Tgt} {it : MI} {ifs : List ME} {r : MC} {env : Env} {s s' : Sto} {ls ls' : List Nat} {α : Type} (xs : List α) (g : α → D) (p : α → Bool) (f : α → D)
    (hI : evI C it env s = .ok (xs.map g, ls) s) (hk : lockAll ls s = (ls', s'))
    (hb : ∀ x ∈ xs, (match bindT 3 t (g x) s' (wipe env own) with
        | some env1 => (evTs C ifs env1 s').bind fun b s => if b = true then evC C r env1 s else .ok [] s
        | none => .no) = .ok (if p x = true then [f x] else []) s')
    (hl : xs.length ≤ lenLine) (hu : unlockAll ls' s' = s) : evE C (.lc m own t it ifs r) env s = mkOb m (.lst ((xs.filter p).map f)) s := by
  show (evI C it env s).bind _ = _
  rw [hI]
  simp only [R.bind_ok, hk]
  rw [lcL_filt _ g p f s' xs hb]
  simp only [R.nox_ok, R.bind_ok]
  rw [if_pos (by rw [List.length_map]; exact Nat.le_trans (List.length_filter_le _ _) hl), hu]
theorem filt_all {α : Type} (xs : List α) : xs.filter (fun _ => true) = xs := by simp
def srtI (l : List Int) : List Int := l.mergeSort leI
theorem srtI_len (l : List Int) : (srtI l).length = l.length := (List.mergeSort_perm l leI).length_eq
theorem intsOf_mp : ∀ l : List Int, intsOf (l.map D.int) = some l
  | [] => rfl
  | a :: l => by simp [intsOf, intsOf_mp l]
theorem sort_frz {l : List Int} {s : Sto} (h : l.length ≤ lenLine) : bltE .sorted false [.frz (.lst (l.map D.int))] s = .ok (.frz (.lst ((srtI l).map D.int))) s := by
  show (match sortD (l.map D.int) with | some es => mkLst false es s | none => .no) = _
  unfold sortD
  rw [intsOf_mp]
  exact mk_frz (by rw [List.length_map]; exact Nat.le_trans (Nat.le_of_eq (srtI_len l)) h)
theorem sorted_lc {C : Ctx} {m : ME} {env : Env} {s : Sto} {l : List Int} (h : evE C m env s = .ok (.frz (.lst (l.map D.int))) s) (hl : l.length ≤ lenLine) : evE C (.blt .sorted false [m]) env s = .ok (.frz (.lst ((srtI l).map D.int))) s := by
  show (evEs C [m] env s).bind _ = _
  simp only [evEs, h, R.bind_ok]
  exact sort_frz hl
theorem seq_app (C : Ctx) : ∀ (l1 l2 : List MS) (env : Env) (s : Sto), evSs C (l1 ++ l2) env s = match evSs C l1 env s with | .ok .next env s => evSs C l2 env s | r => r
  | [], l2, env, s => rfl
  | m :: r, l2, env, s => by
    show evSs C (m :: (r ++ l2)) env s = _
    rw [seq_cons, seq_cons]
    cases evS C m env s with
    | ok f env s => cases f with
      | next => exact seq_app C r l2 env s
      | ret d => rfl
    | ex x env s => rfl
    | no => rfl
/-- what stands ahead of a body's last row lets it go on, the last row answers -/
theorem seq_ret {C : Ctx} {bd : List MS} {k : Nat} {e : ME} {env env' : Env} {s s' s'' : Sto} {d : D} (hb : bd = bd.take k ++ [.ret (some e)]) (h1 : evSs C (bd.take k) env s = .ok .next env' s') (h2 : evE C e env' s' = .ok d s'') : evSs C bd env s = .ok (.ret d) env' s'' := by
  rw [hb, seq_app, h1]
  show (match (evE C e env' s').then env' fun d s => .ok (.ret d) env' s with | .ok .next env s => evSs C [] env s | r => r) = _
  rw [h2]
  rfl
/-! ### a value beside itself -/
def sdat : Nat → D → Bool
  | _, .non => true
  | _, .bl _ => true
  | _, .int _ => true
  | _, .str cs => cs.all (fun c => decide (c < 1114112))
  | n + 1, .tup ds => decide (ds.length ≤ lenLine) && ds.all (sdat n)
  | n + 1, .frz (.lst ds) => decide (ds.length ≤ lenLine) && ds.all (sdat n)
  | _, _ => false
theorem same_zip (G : Pg) (n : Nat) (x : D) (ds : List D) (s : Sto) (hx : ∀ s, seqOf x s = some ds) (hl : lockOf x = []) (hk : ds.length ≤ lenLine) (he : ∀ d ∈ ds, ∀ s, run G n "_law_same" [d, d] s = .ok (.bl true) s) :
    evE ⟨run G n, G.fuel, none, G.sub⟩ (.blt .all false [.lc false [2, 3] (.tp [.nm 2, .nm 3]) (.zip (.var 0) (.var 1)) [] (.elt (.call "_law_same" [.var 2, .var 3] [] [] [.pos 0, .pos 1]))]) [some x, some x, none, none] s = .ok (.bl true) s := by
  have e2 : evI ⟨run G n, G.fuel, none, G.sub⟩ (.zip (.var 0) (.var 1)) [some x, some x, none, none] s = .ok (ds.map (fun d => D.tup [d, d]), []) s := by
    simp only [evI, evE, List.getElem?_cons_succ, List.getElem?_cons_zero, R.bind_ok, at?_some, hx, hl]
    rw [if_pos trivial]
    have : ds.zip ds = ds.map fun d => (d, d) := by
      clear hx he hk
      induction ds with
      | nil => rfl
      | cons d ds ih => simp [ih]
    rw [this, List.map_map]
    rfl
  have z := lc_gen (C := ⟨run G n, G.fuel, none, G.sub⟩) (m := false) (own := [2, 3]) (t := .tp [.nm 2, .nm 3]) (ifs := []) (r := .elt (.call "_law_same" [.var 2, .var 3] [] [] [.pos 0, .pos 1])) ds (fun d => .tup [d, d]) (fun _ => true) (fun _ => .bl true) e2 rfl (fun d hd => by
    have e1 : bindT 3 (.tp [.nm 2, .nm 3]) (.tup [d, d]) s (wipe [some x, some x, none, none] [2, 3]) = some [some x, some x, some d, some d] := rfl
    simp only [e1, evTs, R.bind_ok, if_true, evC, evE, evEs, List.getElem?_cons_succ, List.getElem?_cons_zero, at?_some, srcs, Src.get, he d hd]) hk rfl
  show (evEs _ [_] _ s).bind _ = _
  simp only [evEs, z, filt_all]
  have al : ∀ s, bltE .all false [.frz (.lst (ds.map fun _ => .bl true))] s = .ok (.bl true) s := fun s => by
    have : ∀ l : List D, boolsOf (l.map fun _ => D.bl true) = some (l.map fun _ => true) := fun l => by
      induction l with
      | nil => rfl
      | cons a l ih => simp [boolsOf, ih]
    show (match boolsOf (ds.map fun _ => .bl true) with | some bs => R.ok (D.bl (bs.all id)) s | none => .no) = _
    rw [this]
    simp
  have mk : ∀ o, mkOb false o s = .ok (.frz o) s := fun o => rfl
  simp only [mk, R.bind_ok, al]
theorem strEq (cs : List Nat) (h : (cs.all fun c => decide (c < 1114112)) = true) (s : Sto) : cmp .eq (.str cs) (.str cs) s = some true := by
  show (if dat 60 (D.str cs) = true ∧ dat 60 (D.str cs) = true then some (peq (.str cs) (.str cs)) else none) = _
  have d1 : dat 60 (D.str cs) = true := by unfold dat; exact h
  rw [if_pos ⟨d1, d1⟩]
  simp [peq]
theorem same_refl (G : Pg) (h : G.fn "_law_same" = some fSame) : ∀ (k : Nat) (d : D), sdat k d = true → ∀ n s, run G (n + k + 1) "_law_same" [d, d] s = .ok (.bl true) s := by
  have flat : ∀ (d : D), (d = .non ∨ (∃ b, d = .bl b) ∨ (∃ i, d = .int i) ∨ ∃ cs : List Nat, d = .str cs ∧ (cs.all fun c => decide (c < 1114112)) = true) → ∀ n s, run G (n + 1) "_law_same" [d, d] s = .ok (.bl true) s := fun d hd n s => by
    rcases hd with rfl | ⟨b, rfl⟩ | ⟨i, rfl⟩ | ⟨cs, rfl, hc⟩
    · rw [run_eq G n _ _ h _ _ rfl (by decide)]
      rw [← fin_pure s (.bl true) [some .non, some .non, none, none] (by rfl)]
      rfl
    · exact same_bl G h n b s
    · exact same_int G h n i s
    · rw [run_eq G n _ _ h _ _ rfl (by decide)]
      rw [← fin_pure s (.bl true) [some (.str cs), some (.str cs), none, none] (by rfl)]
      refine congrArg (finR s) ?_
      have i1 : ∀ s, bltE (.isi [.bool]) false [.str cs] s = .ok (.bl false) s := fun s => rfl
      have i2 : ∀ s, bltE (.isi [.int]) false [.str cs] s = .ok (.bl false) s := fun s => rfl
      have i3 : ∀ s, bltE (.isi [.str]) false [.str cs] s = .ok (.bl true) s := fun s => rfl
      simp only [fSame, evSs, evS, evE, evEs, List.map_cons, List.map_nil, List.cons_append, List.nil_append, List.getElem?_cons_succ, List.getElem?_cons_zero, R.bind_ok, R.then_ok, truth_bl, i1, i2, i3, strEq cs hc, at?_some, Option.map_some]
      rfl
  intro k
  induction k with
  | zero =>
    intro d hd n s
    refine flat d ?_ n s
    cases d <;> simp [sdat] at hd ⊢
    exact hd
  | succ k ih =>
    intro d hd n s
    have rp : (List.replicate (fSame.ns - fSame.np) (none : Option D)) = [none, none] := rfl
    have sq : ∀ ds : List D, (decide (ds.length ≤ lenLine) && ds.all (sdat k)) = true → ds.length ≤ lenLine ∧ ∀ d ∈ ds, ∀ s, run G (n + k + 1) "_law_same" [d, d] s = .ok (.bl true) s := fun ds hds => by
      rw [Bool.and_eq_true] at hds
      exact ⟨of_decide_eq_true hds.1, fun d hd s => ih d (List.all_eq_true.mp hds.2 d hd) n s⟩
    have seqs : ∀ (x : D) (ds : List D), (∀ s, seqOf x s = some ds) → lockOf x = [] → x.lf = true ∨ True → (decide (ds.length ≤ lenLine) && ds.all (sdat k)) = true →
        (x = .tup ds ∨ x = .frz (.lst ds)) → run G (n + (k + 1) + 1) "_law_same" [x, x] s = .ok (.bl true) s := fun x ds hx hl _ hds hk => by
      obtain ⟨q1, q2⟩ := sq ds hds
      have z := same_zip G (n + k + 1) x ds { s with base := s.ob.length, esc := false } hx hl q1 q2
      have i7 : ∀ s, cmp .ne (.int ds.length) (.int ds.length) s = some false := fun s => by
        rw [neI, decide_eq_true rfl]
        rfl
      refine (run_eq G (n + k + 1) _ _ h _ _ rfl (by decide)).trans ?_
      refine Eq.trans ?_ (fin_pure s (.bl true) [some x, some x, none, none] (by rfl))
      refine congrArg (finR s) ?_
      rcases hk with rfl | rfl
      · have i1 : ∀ s, bltE (.isi [.bool]) false [.tup ds] s = .ok (.bl false) s := fun s => rfl
        have i2 : ∀ s, bltE (.isi [.int]) false [.tup ds] s = .ok (.bl false) s := fun s => rfl
        have i3 : ∀ s, bltE (.isi [.str]) false [.tup ds] s = .ok (.bl false) s := fun s => rfl
        have i4 : ∀ s, bltE (.isi [.list]) false [.tup ds] s = .ok (.bl false) s := fun s => rfl
        have i5 : ∀ s, bltE (.isi [.tuple]) false [.tup ds] s = .ok (.bl true) s := fun s => rfl
        have i6 : ∀ s, bltE .len false [.tup ds] s = .ok (.int ds.length) s := fun s => rfl
        have go : evSs ⟨run G (n + k + 1), G.fuel, none, G.sub⟩ (fSame.body.take 5) [some (.tup ds), some (.tup ds), none, none] { s with base := s.ob.length, esc := false } = .ok .next [some (.tup ds), some (.tup ds), none, none] { s with base := s.ob.length, esc := false } := by
          simp only [fSame, List.take_succ_cons, List.take_zero, evSs, evS, evE, evEs, List.getElem?_cons_succ, List.getElem?_cons_zero, R.bind_ok, R.then_ok, truth_bl, i1, i2, i3, i4, i5, i6, i7, at?_some, Option.map_some, Bool.not_true, Bool.not_false]
        exact seq_ret rfl go z
      · have i1 : ∀ s, bltE (.isi [.bool]) false [.frz (.lst ds)] s = .ok (.bl false) s := fun s => rfl
        have i2 : ∀ s, bltE (.isi [.int]) false [.frz (.lst ds)] s = .ok (.bl false) s := fun s => rfl
        have i3 : ∀ s, bltE (.isi [.str]) false [.frz (.lst ds)] s = .ok (.bl false) s := fun s => rfl
        have i4 : ∀ s, bltE (.isi [.list]) false [.frz (.lst ds)] s = .ok (.bl true) s := fun s => rfl
        have i6 : ∀ s, bltE .len false [.frz (.lst ds)] s = .ok (.int ds.length) s := fun s => rfl
        have go : evSs ⟨run G (n + k + 1), G.fuel, none, G.sub⟩ (fSame.body.take 5) [some (.frz (.lst ds)), some (.frz (.lst ds)), none, none] { s with base := s.ob.length, esc := false } = .ok .next [some (.frz (.lst ds)), some (.frz (.lst ds)), none, none] { s with base := s.ob.length, esc := false } := by
          simp only [fSame, List.take_succ_cons, List.take_zero, evSs, evS, evE, evEs, List.getElem?_cons_succ, List.getElem?_cons_zero, R.bind_ok, R.then_ok, truth_bl, i1, i2, i3, i4, i6, i7, at?_some, Option.map_some, Bool.not_true, Bool.not_false]
        exact seq_ret rfl go z
    cases d with
    | tup ds => exact seqs _ ds (fun s => rfl) rfl (.inr trivial) hd (.inl rfl)
    | frz o =>
      cases o with
      | lst ds => exact seqs _ ds (fun s => rfl) rfl (.inr trivial) hd (.inr rfl)
      | _ => cases hd
    | non => exact flat _ (.inl rfl) _ s
    | bl b => exact flat _ (.inr (.inl ⟨b, rfl⟩)) _ s
    | int i => exact flat _ (.inr (.inr (.inl ⟨i, rfl⟩))) _ s
    | str cs => exact flat _ (.inr (.inr (.inr ⟨cs, rfl, hd⟩))) _ s
    | _ => cases hd
end Fn

set_option linter.all false
set_option maxRecDepth 100000
set_option maxHeartbeats 2000000
namespace Fn
/-! P18: hears, heard, hearers; a stranger; refusals told. -/
def fHears : Fd := ⟨3, 3, [
    .exp (.meth "Field" "check" (.var 0) [.var 1] [] [] [.pos 0]),
    .exp (.meth "Field" "check" (.var 0) [.var 2] [] [] [.pos 0]),
    .ret (some (.cmp .isin (.tup [.var 2, .var 1]) (.fld ["Field"] (.var 0) "pairs")))]⟩
def fHeard : Fd := ⟨2, 4, [
    .exp (.meth "Field" "check" (.var 0) [.var 1] [] [] [.pos 0]),
    .ret (some (.blt .sorted false [.lc false [2, 3] (.tp [.nm 2, .nm 3]) (.it (.fld ["Field"] (.var 0) "pairs")) [.cmp .eq (.var 3) (.var 1)] (.elt (.var 2))]))]⟩
def fHearers : Fd := ⟨2, 4, [
    .exp (.meth "Field" "check" (.var 0) [.var 1] [] [] [.pos 0]),
    .ret (some (.blt .sorted false [.lc false [2, 3] (.tp [.nm 2, .nm 3]) (.it (.fld ["Field"] (.var 0) "pairs")) [.cmp .eq (.var 2) (.var 1)] (.elt (.var 3))]))]⟩
section
variable {ob : List Ob} {l a c : Nat} {hs : List Int} {es : List (Int × Int)} {b : Nat} {e : Bool}
theorem lock_set {o : Ob} (h : ob[c]? = some o) (ho : ∀ z, o ≠ .lk z) : lockAll [c] ⟨ob, b, e⟩ = ([c], ⟨ob.set c (.lk o), b, e⟩) := by
  unfold lockAll lock1
  simp only [h]
  cases o with
  | lk z => exact absurd rfl (ho z)
  | _ => rfl
theorem unlock_set {o : Ob} (h : ob[c]? = some o) : unlockAll [c] ⟨ob.set c (.lk o), b, e⟩ = ⟨ob, b, e⟩ := by
  obtain ⟨hc, hg⟩ := List.getElem?_eq_some_iff.mp h
  unfold unlockAll unlockAll unlock1
  simp only [List.getElem?_set_self hc, List.set_set]
  congr 1
  refine List.ext_getElem? fun i => ?_
  by_cases hi : c = i
  · subst hi
    rw [List.getElem?_set_self hc, h]
  · rw [List.getElem?_set_ne hi]
/-- a comprehension over the field's ears -/
theorem ears_lc {C : Ctx} {m : Bool} {own : List Nat} {t : Tgt} {i : Nat} {ifs : List ME} {r : MC} {env : Env} (F : FieldAt ob l a c hs es) (hv : env[i]? = some (some (.loc l))) (p : Int × Int → Bool) (f : Int × Int → D)
    (hb : ∀ q ∈ es, ∀ s', (match bindT 3 t (tp2 q) s' (wipe env own) with
        | some env1 => (evTs C ifs env1 s').bind fun b s => if b = true then evC C r env1 s else .ok [] s
        | none => .no) = .ok (if p q = true then [f q] else []) s') (hl : es.length ≤ lenLine) :
    evE C (.lc m own t (.it (.fld ["Field"] (.var i) "pairs")) ifs r) env ⟨ob, b, e⟩ = mkOb m (.lst ((es.filter p).map f)) ⟨ob, b, e⟩ := by
  refine lc_gen es tp2 p f (ls := [c]) (ls' := [c]) (s' := ⟨ob.set c (.lk (.dct true (es.map ek))), b, e⟩) ?_ (lock_set F.pairs fun z q => by cases q) (fun q hq => hb q hq _) hl (unlock_set F.pairs)
  have it : itemsI (.loc c) ⟨ob, b, e⟩ = some (es.map tp2) := by
    unfold itemsI
    rw [F.dct2]
    show some ((es.map ek).map fun p => p.1.d) = _
    rw [List.map_map]
    rfl
  simp only [evI, evE, hv, R.bind_ok, F.fld2, at?_some, it, lockOf]
end
theorem sHears : "Field" ++ "." ++ "hears" = "Field.hears" := by decide
theorem sHeard : "Field" ++ "." ++ "heard" = "Field.heard" := by decide
theorem sHearers : "Field" ++ "." ++ "hearers" = "Field.hearers" := by decide
theorem hears_run (G : Pg) (h : G.fn "Field.hears" = some fHears) (hc : G.fn "Field.check" = some fCheck) (n : Nat) (l a c : Nat) (hs : List Int) (es : List (Int × Int)) (x y : Int) (s : Sto) (F : FieldAt s.ob l a c hs es) :
    run G (n + 2) "Field.hears" [.loc l, .int x, .int y] s = if x ∈ hs then if y ∈ hs then .ok (.bl (decide ((y, x) ∈ es))) s else .ex (noHouse y) s else .ex (noHouse x) s := by
  rw [run_eq G (n + 1) _ _ h _ _ rfl (by decide)]
  have rp : (List.replicate (fHears.ns - fHears.np) (none : Option D)) = [] := rfl
  have c1 := fun z => check_run G hc n l a c hs es z ⟨s.ob, s.ob.length, false⟩ F
  have F' : FieldAt (⟨s.ob, s.ob.length, false⟩ : Sto).ob l a c hs es := F
  have fg : fget (ffs a c) "check" = none := rfl
  by_cases hx : x ∈ hs
  · have c1x := (c1 x).trans (if_pos hx)
    rw [if_pos hx]
    by_cases hy : y ∈ hs
    · have c1y := (c1 y).trans (if_pos hy)
      rw [if_pos hy]
      refine Eq.trans ?_ (fin_pure s _ [some (.loc l), some (.int x), some (.int y)] rfl)
      refine congrArg (finR s) ?_
      simp only [fHears, evSs, evS, evE, evEs, List.map_cons, List.map_nil, List.cons_append, List.nil_append, List.getElem?_cons_succ, List.getElem?_cons_zero, R.bind_ok, R.then_ok, F'.insOf, fg, and_self, if_true, srcs, Src.get, sCheck, c1x, c1y, F'.fld2, F'.isin2, at?_some, Option.map_some]
      rfl
    · have c1y := (c1 y).trans (if_neg hy)
      rw [if_neg hy]
      refine Eq.trans ?_ (ex_pure s _ [some (.loc l), some (.int x), some (.int y)] rfl)
      refine congrArg (finR s) ?_
      simp only [fHears, evSs, evS, evE, evEs, List.map_cons, List.map_nil, List.cons_append, List.nil_append, List.getElem?_cons_succ, List.getElem?_cons_zero, R.bind_ok, R.then_ok, F'.insOf, fg, and_self, if_true, srcs, Src.get, sCheck, c1x, c1y, R.bind_ex, R.then_ex]
      rfl
  · have c1x := (c1 x).trans (if_neg hx)
    rw [if_neg hx]
    refine Eq.trans ?_ (ex_pure s _ [some (.loc l), some (.int x), some (.int y)] rfl)
    refine congrArg (finR s) ?_
    simp only [fHears, evSs, evS, evE, evEs, List.map_cons, List.map_nil, List.cons_append, List.nil_append, List.getElem?_cons_succ, List.getElem?_cons_zero, R.bind_ok, R.then_ok, F'.insOf, fg, and_self, if_true, srcs, Src.get, sCheck, c1x, R.bind_ex, R.then_ex]
    rfl
/-- whom x hears, who hears x: ascending -/
def heardL (es : List (Int × Int)) (x : Int) : List Int := srtI ((es.filter fun q => decide (q.2 = x)).map (·.1))
def hearersL (es : List (Int × Int)) (x : Int) : List Int := srtI ((es.filter fun q => decide (q.1 = x)).map (·.2))
theorem map_int {α : Type} (l : List α) (f : α → Int) : l.map (fun q => D.int (f q)) = (l.map f).map D.int := by rw [List.map_map]; rfl
theorem heard_run (G : Pg) (h : G.fn "Field.heard" = some fHeard) (hc : G.fn "Field.check" = some fCheck) (n : Nat) (l a c : Nat) (hs : List Int) (es : List (Int × Int)) (x : Int) (s : Sto) (F : FieldAt s.ob l a c hs es) (hl : es.length ≤ lenLine) :
    run G (n + 2) "Field.heard" [.loc l, .int x] s = if x ∈ hs then .ok (.frz (.lst ((heardL es x).map D.int))) s else .ex (noHouse x) s := by
  rw [run_eq G (n + 1) _ _ h _ _ rfl (by decide)]
  have rp : (List.replicate (fHeard.ns - fHeard.np) (none : Option D)) = [none, none] := rfl
  have c1 := fun z => check_run G hc n l a c hs es z ⟨s.ob, s.ob.length, false⟩ F
  have F' : FieldAt (⟨s.ob, s.ob.length, false⟩ : Sto).ob l a c hs es := F
  have fg : fget (ffs a c) "check" = none := rfl
  by_cases hx : x ∈ hs
  · have c1x := (c1 x).trans (if_pos hx)
    rw [if_pos hx]
    refine Eq.trans ?_ (fin_pure s _ [some (.loc l), some (.int x), none, none] (lf_ints _))
    refine congrArg (finR s) ?_
    refine seq_ret (k := 1) rfl (s' := ⟨s.ob, s.ob.length, false⟩) (env' := [some (.loc l), some (.int x), none, none]) ?_ ?_
    · simp only [fHeard, List.take_succ_cons, List.take_zero, evSs, evS, evE, evEs, rp, List.map_cons, List.map_nil, List.cons_append, List.nil_append, List.getElem?_cons_succ, List.getElem?_cons_zero, R.bind_ok, R.then_ok, F'.insOf, fg, and_self, if_true, srcs, Src.get, sCheck, c1x]
      rfl
    · refine sorted_lc ?_ (Nat.le_trans (Nat.le_trans (Nat.le_of_eq (List.length_map ..)) (List.length_filter_le _ _)) hl)
      rw [ears_lc F' rfl (fun q => decide (q.2 = x)) (fun q => .int q.1) (fun q _ s' => ?_) hl, map_int]
      · rfl
      · have e1 : bindT 3 (.tp [.nm 2, .nm 3]) (tp2 q) s' (wipe [some (.loc l), some (.int x), none, none] [2, 3]) = some [some (.loc l), some (.int x), some (.int q.1), some (.int q.2)] := rfl
        simp only [e1, evTs, evE, List.getElem?_cons_succ, List.getElem?_cons_zero, R.bind_ok, eqI, at?_some, Option.map_some, truth_bl]
        cases decide (q.2 = x) <;> simp only [R.bind_ok, evC, evE, List.getElem?_cons_succ, List.getElem?_cons_zero, if_true] <;> rfl
  · have c1x := (c1 x).trans (if_neg hx)
    rw [if_neg hx]
    refine Eq.trans ?_ (ex_pure s _ [some (.loc l), some (.int x), none, none] rfl)
    refine congrArg (finR s) ?_
    show evSs _ (_ :: [_]) _ _ = _
    rw [seq_cons]
    simp only [evS, evE, evEs, rp, List.map_cons, List.map_nil, List.cons_append, List.nil_append, List.getElem?_cons_succ, List.getElem?_cons_zero, R.bind_ok, R.then_ok, F'.insOf, fg, and_self, if_true, srcs, Src.get, sCheck, c1x, R.bind_ex, R.then_ex]
theorem hearers_run (G : Pg) (h : G.fn "Field.hearers" = some fHearers) (hc : G.fn "Field.check" = some fCheck) (n : Nat) (l a c : Nat) (hs : List Int) (es : List (Int × Int)) (x : Int) (s : Sto) (F : FieldAt s.ob l a c hs es) (hl : es.length ≤ lenLine) :
    run G (n + 2) "Field.hearers" [.loc l, .int x] s = if x ∈ hs then .ok (.frz (.lst ((hearersL es x).map D.int))) s else .ex (noHouse x) s := by
  rw [run_eq G (n + 1) _ _ h _ _ rfl (by decide)]
  have rp : (List.replicate (fHearers.ns - fHearers.np) (none : Option D)) = [none, none] := rfl
  have c1 := fun z => check_run G hc n l a c hs es z ⟨s.ob, s.ob.length, false⟩ F
  have F' : FieldAt (⟨s.ob, s.ob.length, false⟩ : Sto).ob l a c hs es := F
  have fg : fget (ffs a c) "check" = none := rfl
  by_cases hx : x ∈ hs
  · have c1x := (c1 x).trans (if_pos hx)
    rw [if_pos hx]
    refine Eq.trans ?_ (fin_pure s _ [some (.loc l), some (.int x), none, none] (lf_ints _))
    refine congrArg (finR s) ?_
    refine seq_ret (k := 1) rfl (s' := ⟨s.ob, s.ob.length, false⟩) (env' := [some (.loc l), some (.int x), none, none]) ?_ ?_
    · simp only [fHearers, List.take_succ_cons, List.take_zero, evSs, evS, evE, evEs, rp, List.map_cons, List.map_nil, List.cons_append, List.nil_append, List.getElem?_cons_succ, List.getElem?_cons_zero, R.bind_ok, R.then_ok, F'.insOf, fg, and_self, if_true, srcs, Src.get, sCheck, c1x]
      rfl
    · refine sorted_lc ?_ (Nat.le_trans (Nat.le_trans (Nat.le_of_eq (List.length_map ..)) (List.length_filter_le _ _)) hl)
      rw [ears_lc F' rfl (fun q => decide (q.1 = x)) (fun q => .int q.2) (fun q _ s' => ?_) hl, map_int]
      · rfl
      · have e1 : bindT 3 (.tp [.nm 2, .nm 3]) (tp2 q) s' (wipe [some (.loc l), some (.int x), none, none] [2, 3]) = some [some (.loc l), some (.int x), some (.int q.1), some (.int q.2)] := rfl
        simp only [e1, evTs, evE, List.getElem?_cons_succ, List.getElem?_cons_zero, R.bind_ok, eqI, at?_some, Option.map_some, truth_bl]
        cases decide (q.1 = x) <;> simp only [R.bind_ok, evC, evE, List.getElem?_cons_succ, List.getElem?_cons_zero, if_true] <;> rfl
  · have c1x := (c1 x).trans (if_neg hx)
    rw [if_neg hx]
    refine Eq.trans ?_ (ex_pure s _ [some (.loc l), some (.int x), none, none] rfl)
    refine congrArg (finR s) ?_
    show evSs _ (_ :: [_]) _ _ = _
    rw [seq_cons]
    simp only [evS, evE, evEs, rp, List.map_cons, List.map_nil, List.cons_append, List.nil_append, List.getElem?_cons_succ, List.getElem?_cons_zero, R.bind_ok, R.then_ok, F'.insOf, fg, and_self, if_true, srcs, Src.get, sCheck, c1x, R.bind_ex, R.then_ex]
/-! ### a stranger -/
theorem memI (x : Int) (l : List Int) : memL (.int x) (l.map D.int) = some (decide (x ∈ l)) := by
  unfold memL
  rw [if_pos ⟨rfl, datL_int 60 l⟩, List.any_map]
  refine congrArg some ?_
  have : ∀ l : List Int, (l.any ((fun d => peq d (D.int x)) ∘ D.int)) = decide (x ∈ l) := fun l => by
    induction l with
    | nil => rfl
    | cons a l ih =>
      rw [List.any_cons, ih]
      show (peq (.int a) (.int x) || _) = _
      rw [peqI, Bool.eq_iff_iff, Bool.or_eq_true, decide_eq_true_eq, decide_eq_true_eq, decide_eq_true_eq, List.mem_cons]
      exact or_congr ⟨Eq.symm, Eq.symm⟩ Iff.rfl
  exact this l
theorem isin_frz (x : Int) (l : List Int) (s : Sto) : cmp .isin (.int x) (.frz (.lst (l.map D.int))) s = some (decide (x ∈ l)) := memI x l
def fStranger : Fd := ⟨2, 3, [
    .asg [.nm 2] (.idx (.lst false [.cst (.int 1), .cst (.int 2), .cst (.int 900000000), .cst (.int 5), .cst (.int 77)]) (.call "_law_take" [.var 0, .cst (.int 5)] [] [] [.pos 0, .pos 1])),
    .whl (.cmp .isin (.var 2) (.var 1)) [.asg [.nm 2] (.bin .add (.var 2) (.cst (.int 1)))],
    .ret (some (.var 2))]⟩
theorem cnt_le (x : Int) : ∀ l : List Int, (l.filter fun y => decide (x + 1 ≤ y)).length ≤ (l.filter fun y => decide (x ≤ y)).length
  | [] => Nat.le_refl _
  | a :: l => by
    have := cnt_le x l
    simp only [List.filter_cons]
    by_cases h1 : x + 1 ≤ a
    · simp [h1, show x ≤ a by omega, this]
    · by_cases h2 : x ≤ a
      · simp [h1, h2]; omega
      · simp [h1, h2, this]
theorem cnt_lt (x : Int) : ∀ l : List Int, x ∈ l → (l.filter fun y => decide (x + 1 ≤ y)).length < (l.filter fun y => decide (x ≤ y)).length
  | [], h => nomatch h
  | a :: l, h => by
    simp only [List.filter_cons]
    by_cases h0 : a = x
    · subst h0
      have := cnt_le a l
      simp [show ¬ a + 1 ≤ a by omega]; omega
    · have := cnt_lt x l (by rcases List.mem_cons.mp h with h | h; exact absurd h.symm h0; exact h)
      by_cases h1 : x + 1 ≤ a
      · simp [h1, show x ≤ a by omega]; omega
      · by_cases h2 : x ≤ a
        · omega
        · simp [h1, h2]; omega
theorem strange_loop (C : Ctx) (p0 fd : Option D) (l : List Int) (s : Sto) (hf : ∀ x : Int, (evE C (.cmp .isin (.var 2) (.var 1)) [p0, fd, some (.int x)] s) = .ok (.bl (decide (x ∈ l))) s) :
    ∀ (k : Nat) (x : Int), (l.filter fun y => decide (x ≤ y)).length < k → ∃ r, whileL (fun env s => (evE C (.cmp .isin (.var 2) (.var 1)) env s).bind fun d s => at? (truth d s) s) (fun env s => evSs C [.asg [.nm 2] (.bin .add (.var 2) (.cst (.int 1)))] env s) k [p0, fd, some (.int x)] s = .ok .next [p0, fd, some (.int r)] s ∧ r ∉ l ∧ x ≤ r
  | 0, x, h => absurd h (Nat.not_lt_zero _)
  | k + 1, x, h => by
    have st : evSs C [.asg [.nm 2] (.bin .add (.var 2) (.cst (.int 1)))] [p0, fd, some (.int x)] s = .ok .next [p0, fd, some (.int (x + 1))] s := by
      simp only [evSs, evS, evE, List.getElem?_cons_succ, List.getElem?_cons_zero, R.bind_ok, R.then_ok, add_D, asgTs, asgT, List.set_cons_succ, List.set_cons_zero]
    unfold whileL
    rw [hf x]
    simp only [R.bind_ok, truth_bl, at?_some]
    by_cases hx : x ∈ l
    · have d1 : decide (x ∈ l) = true := decide_eq_true hx
      have lt := cnt_lt x l hx
      obtain ⟨r, q1, q2, q3⟩ := strange_loop C p0 fd l s hf k (x + 1) (by omega)
      refine ⟨r, ?_, q2, by omega⟩
      rw [d1]
      dsimp only
      rw [st]
      exact q1
    · have d1 : decide (x ∈ l) = false := decide_eq_false hx
      rw [d1]
      exact ⟨x, rfl, hx, Int.le_refl _⟩
theorem stranger_run (G : Pg) (h : G.fn "_law_stranger" = some fStranger) (ht : G.fn "_law_take" = some fTake) (n p : Nat) (l : List Int) (A B : List Ob) (b : Nat) (e : Bool) (hp : PotP p A) (hl : l.length < G.fuel) :
    ∃ r A', run G (n + 2) "_law_stranger" [.loc p, .frz (.lst (l.map D.int))] ⟨A ++ B, b, e⟩ = .ok (.int r) ⟨A' ++ B, b, e⟩ ∧ PotP p A' ∧ r ∉ l ∧ 1 ≤ r := by
  rw [run_eq G (n + 1) _ _ h _ _ rfl (by decide)]
  have sl : ∀ {k : Int}, 0 < k → k ≤ 2000000000 → k.natAbs < divLine := fun h0 h1 => small_line (by omega)
  have rp : (List.replicate (fStranger.ns - fStranger.np) (none : Option D)) = [none] := rfl
  obtain ⟨r1, A1, t1, a1, b1, p1⟩ := take_pot G ht n p 5 A B (A ++ B).length false hp (by decide) (sl (by decide) (by decide))
  obtain ⟨m1, x1, y1, z1⟩ := pick5 1 2 900000000 5 77 a1 b1 900000000 (by decide) (by decide) (by decide) (by decide) (by decide)
  have mk5 : ∀ (a b c d e : Int) s, mkLst false [D.int a, .int b, .int c, .int d, .int e] s = .ok (.frz (.lst [D.int a, .int b, .int c, .int d, .int e])) s := fun a b c d e s => if_pos (by show 5 ≤ 16777216; decide)
  obtain ⟨r, q1, q2, q3⟩ := strange_loop ⟨run G (n + 1), G.fuel, none, G.sub⟩ (some (.loc p)) (some (.frz (.lst (l.map D.int)))) l ⟨A1 ++ B, (A ++ B).length, false⟩ (fun x => by
    simp only [evE, List.getElem?_cons_succ, List.getElem?_cons_zero, R.bind_ok, isin_frz, Option.map_some, at?_some]) G.fuel m1 (Nat.lt_of_le_of_lt (List.length_filter_le _ _) hl)
  refine ⟨r, A1, ?_, p1, q2, by omega⟩
  have e0 : evS ⟨run G (n + 1), G.fuel, none, G.sub⟩ (.asg [.nm 2] (.idx (.lst false [.cst (.int 1), .cst (.int 2), .cst (.int 900000000), .cst (.int 5), .cst (.int 77)]) (.call "_law_take" [.var 0, .cst (.int 5)] [] [] [.pos 0, .pos 1]))) [some (.loc p), some (.frz (.lst (l.map D.int))), none] ⟨A ++ B, (A ++ B).length, false⟩ = .ok .next [some (.loc p), some (.frz (.lst (l.map D.int))), some (.int m1)] ⟨A1 ++ B, (A ++ B).length, false⟩ := by
    simp only [evS, evE, evEs, List.getElem?_cons_succ, List.getElem?_cons_zero, R.bind_ok, R.then_ok, mk5, srcs, Src.get, t1, idx_frz, x1, at?_some, asgTs, asgT, List.set_cons_succ, List.set_cons_zero]
  have go : evSs ⟨run G (n + 1), G.fuel, none, G.sub⟩ fStranger.body ([D.loc p, D.frz (.lst (l.map D.int))].map some ++ List.replicate (fStranger.ns - fStranger.np) none) ⟨A ++ B, (A ++ B).length, false⟩ = .ok (.ret (.int r)) [some (.loc p), some (.frz (.lst (l.map D.int))), some (.int r)] ⟨A1 ++ B, (A ++ B).length, false⟩ := by
    show evSs _ (_ :: _ :: [_]) [some (.loc p), some (.frz (.lst (l.map D.int))), none] _ = _
    rw [seq_cons, e0]
    dsimp only
    rw [seq_cons]
    simp only [evS]
    erw [q1]
    simp only [evSs, evS, evE, List.getElem?_cons_succ, List.getElem?_cons_zero, R.then_ok]
  rw [go]
  have := fin_drop (A := A) (B := B) (A' := A1) (X := []) (b := b) (e := e) (d := .int r) (env := [some (.loc p), some (.frz (.lst (l.map D.int))), some (.int r)]) rfl (by rw [p1.1, hp.1])
  rw [List.append_nil] at this
  exact this
end Fn

set_option linter.all false
set_option maxRecDepth 100000
set_option maxHeartbeats 2000000
namespace Fn
/-! P19: rows of laws; k08's law. -/
/-- a loop whose rounds keep what they need -/
theorem forL_inv {α : Type} (F : D → Env → Sto → RS) (g : α → D) (I : Env → Prop) (s : Sto) : ∀ (xs : List α) (env : Env), (∀ x ∈ xs, ∀ env, I env → ∃ env', F (g x) env s = .ok .next env' s ∧ I env') → I env → ∃ env', forL F (xs.map g) env s = .ok .next env' s ∧ I env'
  | [], env, _, h => ⟨env, rfl, h⟩
  | x :: xs, env, hF, h => by
    obtain ⟨e1, q1, i1⟩ := hF x List.mem_cons_self env h
    obtain ⟨e2, q2, i2⟩ := forL_inv F g I s xs e1 (fun y hy => hF y (List.mem_cons_of_mem _ hy)) i1
    refine ⟨e2, ?_, i2⟩
    show (match F (g x) env s with | .ok .next env s => forL F (xs.map g) env s | r => r) = _
    rw [q1]
    exact q2
/-- if not _law_same(X, Y): return False -/
theorem same_ifs {C : Ctx} {X Y : ME} {env : Env} {s s1 s2 s3 : Sto} {d d' : D} {bd : List MS} (hX : evE C X env s = .ok d s1) (hY : evE C Y env s1 = .ok d' s2) (hS : C.call "_law_same" [d, d'] s2 = .ok (.bl true) s3) :
    evS C (.ifs (.not (.call "_law_same" [X, Y] [] [] [.pos 0, .pos 1])) bd []) env s = .ok .next env s3 := by
  simp only [evS, evE, evEs, hX, hY, R.bind_ok, srcs, Src.get, List.getElem?_cons_succ, List.getElem?_cons_zero, hS, truth_bl, Option.map_some, at?_some, R.then_ok, Bool.not_true, evSs]
theorem same_ret {C : Ctx} {X Y : ME} {env : Env} {s s1 s2 s3 : Sto} {d d' : D} (hX : evE C X env s = .ok d s1) (hY : evE C Y env s1 = .ok d' s2) (hS : C.call "_law_same" [d, d'] s2 = .ok (.bl true) s3) :
    evE C (.call "_law_same" [X, Y] [] [] [.pos 0, .pos 1]) env s = .ok (.bl true) s3 := by
  simp only [evE, evEs, hX, hY, R.bind_ok, srcs, Src.get, List.getElem?_cons_succ, List.getElem?_cons_zero, hS]
theorem meth_ev {C : Ctx} {c m : String} {o : ME} {es : List ME} {pl : List Src} {env : Env} {s : Sto} {x : D} {fs : List (String × D)} {vs ds : List D} (ho : evE C o env s = .ok x s) (hi : insOf x s = some (c, fs)) (hf : fget fs m = none) (he : evEs C es env s = .ok vs s) (hp : srcs pl vs [] = some ds) :
    evE C (.meth c m o es [] [] pl) env s = C.call (c ++ "." ++ m) (x :: ds) s := by
  simp only [evE, ho, R.bind_ok, hi, hf, and_self, if_true, he, evEs, hp]
theorem why_ev {C : Ctx} {g : String} {ws : List (String × List Nat × List String)} {e : ME} {env : Env} {s s' : Sto} {x : Xn} {d : D} (he : evE C e env s = .ex x s') (hw : whyH C.sub ws x = some d) : evE C (.why g ws e) env s = .ok d s' := by
  simp only [evE, he, hw, at?_some]
theorem datL_tp (n : Nat) : ∀ l : List (Int × Int), datL (n + 1) (l.map tp2) = true
  | [] => by simp [datL]
  | a :: l => by
    have h := datL_tp n l
    have : dat (n + 1) (tp2 a) = true := by simp [tp2, dat, datL]
    simp [datL, this, h]
theorem peqT (q r : Int × Int) : peq (tp2 q) (tp2 r) = decide (q = r) := by
  show (decide (q.1 = r.1) && (decide (q.2 = r.2) && true)) = _
  rw [Bool.and_true, Bool.eq_iff_iff, Bool.and_eq_true, decide_eq_true_eq, decide_eq_true_eq, decide_eq_true_eq]
  exact ⟨fun h => Prod.ext h.1 h.2, fun h => by rw [h]; exact ⟨rfl, rfl⟩⟩
theorem memT (q : Int × Int) (l : List (Int × Int)) : memL (tp2 q) (l.map tp2) = some (decide (q ∈ l)) := by
  unfold memL
  rw [if_pos ⟨rfl, datL_tp 59 l⟩, List.any_map]
  refine congrArg some ?_
  have : ∀ l : List (Int × Int), (l.any ((fun d => peq d (tp2 q)) ∘ tp2)) = decide (q ∈ l) := fun l => by
    induction l with
    | nil => rfl
    | cons a l ih =>
      rw [List.any_cons, ih]
      show (peq (tp2 a) (tp2 q) || _) = _
      rw [peqT, Bool.eq_iff_iff, Bool.or_eq_true, decide_eq_true_eq, decide_eq_true_eq, decide_eq_true_eq, List.mem_cons]
      exact or_congr ⟨Eq.symm, Eq.symm⟩ Iff.rfl
  exact this l
theorem isin_tps (x y : Int) (l : List (Int × Int)) (s : Sto) : cmp .isin (.tup [.int x, .int y]) (.frz (.lst (l.map tp2))) s = some (decide ((x, y) ∈ l)) := memT (x, y) l
theorem foldl_addE : ∀ (es acc : List (Int × Int)), (acc ++ es).Nodup → es.foldl (earAdd false) acc = acc ++ es
  | [], acc, _ => by simp
  | q :: es, acc, h => by
    have nm : q ∉ acc := fun hm => (List.nodup_append.mp h).2.2 q hm q List.mem_cons_self rfl
    show es.foldl (earAdd false) (earAdd false acc q) = _
    have e1 : earAdd false acc q = acc ++ [q] := if_neg nm
    rw [e1, foldl_addE es (acc ++ [q]) (by rw [List.append_assoc]; exact h), List.append_assoc]
    rfl
theorem houseX_ok : ∀ (rest done : List Int), (done ++ rest).Nodup → (∀ x ∈ rest, 1 ≤ x ∧ x ≤ 1000000000) → houseX done rest = none
  | [], done, _, _ => rfl
  | x :: rest, done, h, hb => by
    have nm : x ∉ done := fun hm => (List.nodup_append.mp h).2.2 x hm x List.mem_cons_self rfl
    unfold houseX
    rw [if_pos (hb x List.mem_cons_self), if_neg nm]
    exact houseX_ok rest _ (by rw [List.append_assoc]; exact h) fun y hy => hb y (List.mem_cons_of_mem _ hy)
theorem earsX_ok {hs : List Int} : ∀ es : List (Int × Int), (∀ q ∈ es, q.1 ∈ hs ∧ q.2 ∈ hs ∧ q.1 ≠ q.2) → earsX hs es = none
  | [], _ => rfl
  | q :: es, h => by
    obtain ⟨h1, h2, h3⟩ := h q List.mem_cons_self
    unfold earsX earX
    rw [if_pos h1, if_pos h2, if_neg h3]
    exact earsX_ok es fun y hy => h y (List.mem_cons_of_mem _ hy)
theorem fieldX_ok {hs : List Int} {es : List (Int × Int)} (h : FolkL 1000000000 hs) (hl : hs.length ≤ 40) (he : EarL hs es) : fieldX hs es = none := by
  unfold fieldX
  rw [if_neg (by omega), houseX_ok hs [] h.1 h.2]
  exact earsX_ok es he.2
theorem sInit : "Field" ++ ".__init__" = "Field.__init__" := by decide
/-- Field(houses, ears, both=False) -/
theorem make_ev {G : Pg} (hi : G.fn "Field.__init__" = some fInit) (h : G.fn "Field.check_ear" = some fCheckEar) (hc : G.fn "Field.check" = some fCheck) (n : Nat) {X : List Ob} {b : Nat} {e : Bool} {env : Env} {E1 E2 : ME} {hs : List Int} {es : List (Int × Int)}
    (h1 : evE ⟨run G (n + 3), G.fuel, none, G.sub⟩ E1 env ⟨X, b, e⟩ = .ok (.frz (.lst (hs.map D.int))) ⟨X, b, e⟩) (h2 : evE ⟨run G (n + 3), G.fuel, none, G.sub⟩ E2 env ⟨X, b, e⟩ = .ok (.frz (.lst (es.map tp2))) ⟨X, b, e⟩)
    (hF : FolkL 1000000000 hs) (hl : hs.length ≤ 40) (hE : EarL hs es) (hel : es.length ≤ 40000) :
    evE ⟨run G (n + 3), G.fuel, none, G.sub⟩ (.make "Field" [E1, E2] ["both"] [.cst (.bl false)] [.pos 0, .pos 1, .kw 0]) env ⟨X, b, e⟩ = .ok (.loc X.length) ⟨X ++ FldB X.length hs es, b, true⟩ := by
  obtain ⟨Y, e', q⟩ := init_run G hi h hc n X b e (.frz (.lst (hs.map D.int))) (.frz (.lst (es.map tp2))) false hs es (fun s => rfl) (fun s => by show R.ok (D.int (hs.map D.int).length) s = _; rw [List.length_map]) rfl (fun s => rfl) rfl hel
  rw [fieldX_ok hF hl hE, foldl_addE es [] hE.1] at q
  simp only [evE, evEs, h1, h2, R.bind_ok, srcs, Src.get, List.getElem?_cons_succ, List.getElem?_cons_zero, sInit, q, List.nil_append]
/-! ### k08 -/
def wsH : List (String × List Nat × List String) := [("NoHouse", [78, 111, 72, 111, 117, 115, 101], ["house"]), ("AirError", [65, 105, 114, 69, 114, 114, 111, 114], [])]
def tagH : ME := .cst (.str [78, 111, 72, 111, 117, 115, 101])
def sameT (X Y : ME) : MS := .ifs (.not (.call "_law_same" [X, Y] [] [] [.pos 0, .pos 1])) [.ret (some (.cst (.bl false)))] []
def lw8i : List MS := [sameT (.meth "Field" "hears" (.var 4) [.var 5, .var 8] [] [] [.pos 0, .pos 1]) (.cmp .isin (.tup [.var 8, .var 5]) (.var 3))]
def lw8b : List MS := [
  sameT (.meth "Field" "heard" (.var 4) [.var 5] [] [] [.pos 0]) (.blt .sorted false [.lc false [6, 7] (.tp [.nm 6, .nm 7]) (.it (.var 3)) [.cmp .eq (.var 7) (.var 5)] (.elt (.var 6))]),
  sameT (.meth "Field" "hearers" (.var 4) [.var 5] [] [] [.pos 0]) (.blt .sorted false [.lc false [6, 7] (.tp [.nm 6, .nm 7]) (.it (.var 3)) [.cmp .eq (.var 6) (.var 5)] (.elt (.var 7))]),
  .for (.nm 8) (.it (.var 2)) lw8i]
def lw8a : List MS := [
    .asg [.nm 1] (.call "_law_pot" [.var 0] [] [] [.pos 0]),
    .asg [.nm 2] (.call "_law_folk" [.var 1, .bin .add (.cst (.int 1)) (.call "_law_take" [.var 1, .cst (.int 6)] [] [] [.pos 0, .pos 1])] [] [] [.pos 0, .pos 1]),
    .asg [.nm 3] (.call "_law_ears" [.var 1, .var 2, .call "_law_take" [.var 1, .cst (.int 9)] [] [] [.pos 0, .pos 1]] [] [] [.pos 0, .pos 1, .pos 2]),
    .asg [.nm 4] (.make "Field" [.var 2, .var 3] ["both"] [.cst (.bl false)] [.pos 0, .pos 1, .kw 0])]
def lw8c : List MS := [
    .asg [.nm 9] (.call "_law_stranger" [.var 1, .var 2] [] [] [.pos 0, .pos 1]),
    .asg [.nm 10] (.call "_law_stranger" [.var 1, .bin .add (.var 2) (.lst false [.var 9])] [] [] [.pos 0, .pos 1]),
    .asg [.nm 11] (.idx (.var 2) (.call "_law_take" [.var 1, .blt .len false [.var 2]] [] [] [.pos 0, .pos 1]))]
def lw8d : List MS := [
    sameT (.why "_law_why" wsH (.meth "Field" "hears" (.var 4) [.var 9, .var 11] [] [] [.pos 0, .pos 1])) (.tup [tagH, .var 9]),
    sameT (.why "_law_why" wsH (.meth "Field" "hears" (.var 4) [.var 11, .var 9] [] [] [.pos 0, .pos 1])) (.tup [tagH, .var 9]),
    sameT (.why "_law_why" wsH (.meth "Field" "hears" (.var 4) [.var 10, .var 9] [] [] [.pos 0, .pos 1])) (.tup [tagH, .var 10]),
    sameT (.why "_law_why" wsH (.meth "Field" "heard" (.var 4) [.var 9] [] [] [.pos 0])) (.tup [tagH, .var 9])]
def lw8r : ME := .call "_law_same" [.why "_law_why" wsH (.meth "Field" "hearers" (.var 4) [.var 10] [] [] [.pos 0]), .tup [tagH, .var 10]] [] [] [.pos 0, .pos 1]
def fLaw8 : Fd := ⟨1, 12, lw8a ++ (.for (.nm 5) (.it (.var 2)) lw8b :: (lw8c ++ (lw8d ++ [.ret (some lw8r)])))⟩
structure G8 (G : Pg) : Prop where
  init : G.fn "Field.__init__" = some fInit
  ce : G.fn "Field.check_ear" = some fCheckEar
  ck : G.fn "Field.check" = some fCheck
  hears : G.fn "Field.hears" = some fHears
  heard : G.fn "Field.heard" = some fHeard
  hearers : G.fn "Field.hearers" = some fHearers
  pot : G.fn "_law_pot" = some fPot
  take : G.fn "_law_take" = some fTake
  same : G.fn "_law_same" = some fSame
  folk : G.fn "_law_folk" = some fFolk
  ears : G.fn "_law_ears" = some fEars
  stranger : G.fn "_law_stranger" = some fStranger
  law : G.fn "law" = some fLaw8
  why : G.sub "NoHouse" "NoHouse" = true
  fuel : 1000 ≤ G.fuel
theorem sdat_ints (k : Nat) (l : List Int) (h : l.length ≤ lenLine) : sdat (k + 1) (.frz (.lst (l.map D.int))) = true := by
  show (decide ((l.map D.int).length ≤ lenLine) && (l.map D.int).all (sdat k)) = true
  rw [Bool.and_eq_true]
  refine ⟨decide_eq_true (by rw [List.length_map]; exact h), List.all_eq_true.mpr fun d hd => ?_⟩
  obtain ⟨i, _, rfl⟩ := List.mem_map.mp hd
  cases k <;> rfl
theorem asg_ev {C : Ctx} {i : Nat} {e : ME} {env : Env} {s s' : Sto} {d : D} (h : evE C e env s = .ok d s') : evS C (.asg [.nm i] e) env s = .ok .next (env.set i (some d)) s' := by
  simp only [evS, h, R.then_ok, asgTs, asgT, R.bind_ok]
theorem seq_go {C : Ctx} {m : MS} {r : List MS} {env env' : Env} {s s' : Sto} (h : evS C m env s = .ok .next env' s') : evSs C (m :: r) env s = evSs C r env' s' := by
  rw [seq_cons, h]
theorem law8_run {G : Pg} (g : G8 G) (n : Nat) (ns : List Int) (hl : ns.length ≤ 63) : ∃ s', run G (n + 8) "law" [.klst (ns.map D.int)] ⟨[], 0, false⟩ = .ok (.bl true) s' := by
  have sl : ∀ {k : Int}, 0 < k → k ≤ 2000000000 → k.natAbs < divLine := fun h0 h1 => small_line (by omega)
  rw [run_eq G (n + 7) _ _ g.law _ _ rfl (by decide)]
  obtain ⟨p, A0, t0, p0⟩ := pot_pot G g.pot (n + 6) ns hl
  have nil : ∀ A : List Ob, A = A ++ [] := fun A => (List.append_nil A).symm
  obtain ⟨r1, A1, t1, a1, b1, p1⟩ := take_pot G g.take (n + 6) p 6 A0 [] 0 false p0 (by decide) (sl (by decide) (by decide))
  obtain ⟨k, hk⟩ : ∃ k : Nat, 1 + r1 = (k : Int) := ⟨(1 + r1).toNat, by omega⟩
  obtain ⟨hs, A2, t2, p2, hf, hfl⟩ := folk_run G g.folk g.take (n + 5) p k A1 [] 0 false p1 (by omega) (by omega)
  obtain ⟨r3, A3, t3, a3, b3, p3⟩ := take_pot G g.take (n + 6) p 9 A2 [] 0 false p2 (by decide) (sl (by decide) (by decide))
  obtain ⟨es, A4, t4, p4, he, hel⟩ := ears_run G g.ears g.take (n + 5) p hs r3 A3 [] 0 false p3 (by omega) hf.1
  rw [List.append_nil] at t1 t2 t3 t4
  rw [List.append_nil] at t1 t2 t3 t4
  generalize hC : (⟨run G (n + 7), G.fuel, none, G.sub⟩ : Ctx) = C
  have ccall : C.call = run G (n + 7) := by rw [← hC]
  have csub : C.sub = G.sub := by rw [← hC]
  have part1 : evSs C lw8a [some (.klst (ns.map D.int)), none, none, none, none, none, none, none, none, none, none, none] ⟨[], 0, false⟩ = .ok .next [some (.klst (ns.map D.int)), some (.loc p), some (.frz (.lst (hs.map D.int))), some (.frz (.lst (es.map tp2))), some (.loc A4.length), none, none, none, none, none, none, none] ⟨A4 ++ FldB A4.length hs es, 0, true⟩ := by
    unfold lw8a
    rw [seq_go (asg_ev (d := .loc p) (s' := ⟨A0, 0, false⟩) (by
      simp only [evE, evEs, List.getElem?_cons_succ, List.getElem?_cons_zero, R.bind_ok, srcs, Src.get, ccall, t0]))]
    simp only [List.set_cons_succ, List.set_cons_zero]
    rw [seq_go (asg_ev (d := .frz (.lst (hs.map D.int))) (s' := ⟨A2, 0, false⟩) (by
      simp only [evE, evEs, List.getElem?_cons_succ, List.getElem?_cons_zero, R.bind_ok, srcs, Src.get, ccall, t1, add_D, hk, t2]))]
    simp only [List.set_cons_succ, List.set_cons_zero]
    rw [seq_go (asg_ev (d := .frz (.lst (es.map tp2))) (s' := ⟨A4, 0, false⟩) (by
      simp only [evE, evEs, List.getElem?_cons_succ, List.getElem?_cons_zero, R.bind_ok, srcs, Src.get, ccall, t3, t4]))]
    simp only [List.set_cons_succ, List.set_cons_zero]
    rw [seq_go (asg_ev (d := .loc A4.length) (s' := ⟨A4 ++ FldB A4.length hs es, 0, true⟩) (by
      rw [← hC]
      exact make_ev g.init g.ce g.ck (n + 4) rfl rfl hf (by omega) he (by omega)))]
    simp only [List.set_cons_succ, List.set_cons_zero]
    rfl
  -- the questions
  have lel : es.length ≤ lenLine := Nat.le_trans hel (by decide)
  have F4 : FieldAt (A4 ++ FldB A4.length hs es) A4.length (A4.length + 1) (A4.length + 2) hs es := fldB_end rfl
  have sm : ∀ (d : D) (k : Nat), k ≤ 6 → sdat k d = true → ∀ s, C.call "_law_same" [d, d] s = .ok (.bl true) s := fun d k hk hd s => by
    rw [ccall]
    have := same_refl G g.same k d hd (n + (6 - k)) s
    have e : n + (6 - k) + k + 1 = n + 7 := by omega
    rwa [e] at this
  have hmem : ∀ x ∈ hs, ∀ (y8 : Option D), ∃ y8', evSs C lw8b [some (.klst (ns.map D.int)), some (.loc p), some (.frz (.lst (hs.map D.int))), some (.frz (.lst (es.map tp2))), some (.loc A4.length), some (.int x), none, none, y8, none, none, none] ⟨A4 ++ FldB A4.length hs es, 0, true⟩ = .ok .next [some (.klst (ns.map D.int)), some (.loc p), some (.frz (.lst (hs.map D.int))), some (.frz (.lst (es.map tp2))), some (.loc A4.length), some (.int x), none, none, y8', none, none, none] ⟨A4 ++ FldB A4.length hs es, 0, true⟩ := fun x hx y8 => by
    unfold lw8b sameT
    have fe : ∀ (p : Int × Int → Bool) (f : Int × Int → Int), ((es.filter p).map f).length ≤ lenLine := fun p f => by
      rw [List.length_map]; exact Nat.le_trans (List.length_filter_le _ _) lel
    rw [seq_go (same_ifs (d := .frz (.lst ((heardL es x).map D.int))) (d' := .frz (.lst ((heardL es x).map D.int))) (s1 := ⟨A4 ++ FldB A4.length hs es, 0, true⟩) (s2 := ⟨A4 ++ FldB A4.length hs es, 0, true⟩) ?_ ?_ (sm _ 1 (by decide) (sdat_ints 0 _ (by unfold heardL; rw [srtI_len]; exact fe _ _)) _))]
    · rw [seq_go (same_ifs (d := .frz (.lst ((hearersL es x).map D.int))) (d' := .frz (.lst ((hearersL es x).map D.int))) (s1 := ⟨A4 ++ FldB A4.length hs es, 0, true⟩) (s2 := ⟨A4 ++ FldB A4.length hs es, 0, true⟩) ?_ ?_ (sm _ 1 (by decide) (sdat_ints 0 _ (by unfold hearersL; rw [srtI_len]; exact fe _ _)) _))]
      · obtain ⟨env', q1, q2⟩ := forL_inv (fun d env s => match bindT 3 (.nm 8) d s env with
            | some env => evSs C lw8i env s
            | none => .no) D.int (fun env => ∃ y, env = [some (.klst (ns.map D.int)), some (.loc p), some (.frz (.lst (hs.map D.int))), some (.frz (.lst (es.map tp2))), some (.loc A4.length), some (.int x), none, none, y, none, none, none]) ⟨A4 ++ FldB A4.length hs es, 0, true⟩ hs _ (fun y hy env hi => by
            obtain ⟨z, rfl⟩ := hi
            refine ⟨_, ?_, some (.int y), rfl⟩
            show evSs C lw8i [some (.klst (ns.map D.int)), some (.loc p), some (.frz (.lst (hs.map D.int))), some (.frz (.lst (es.map tp2))), some (.loc A4.length), some (.int x), none, none, some (.int y), none, none, none] _ = _
            unfold lw8i sameT
            rw [seq_go (same_ifs (d := .bl (decide ((y, x) ∈ es))) (d' := .bl (decide ((y, x) ∈ es))) (s1 := ⟨A4 ++ FldB A4.length hs es, 0, true⟩) (s2 := ⟨A4 ++ FldB A4.length hs es, 0, true⟩) ?_ ?_ (sm _ 0 (by decide) rfl _))]
            · rfl
            · rw [meth_ev (x := .loc A4.length) (vs := [.int x, .int y]) (ds := [.int x, .int y]) rfl F4.insOf rfl rfl rfl, ccall, sHears]
              have := hears_run G g.hears g.ck (n + 5) A4.length (A4.length + 1) (A4.length + 2) hs es x y ⟨A4 ++ FldB A4.length hs es, 0, true⟩ F4
              rw [if_pos hx, if_pos hy] at this
              exact this
            · simp only [evE, evEs, List.getElem?_cons_succ, List.getElem?_cons_zero, R.bind_ok, isin_tps, Option.map_some, at?_some]) ⟨y8, rfl⟩
        obtain ⟨z, rfl⟩ := q2
        refine ⟨z, ?_⟩
        rw [seq_go (for_frz rfl q1)]
        rfl
      · rw [meth_ev (x := .loc A4.length) (vs := [.int x]) (ds := [.int x]) rfl F4.insOf rfl rfl rfl, ccall, sHearers]
        have := hearers_run G g.hearers g.ck (n + 5) A4.length (A4.length + 1) (A4.length + 2) hs es x ⟨A4 ++ FldB A4.length hs es, 0, true⟩ F4 lel
        rw [if_pos hx] at this
        exact this
      · refine sorted_lc ?_ (fe _ _)
        rw [lc_gen es tp2 (fun q => decide (q.1 = x)) (fun q => .int q.2) (ls := []) (ls' := []) (s' := ⟨A4 ++ FldB A4.length hs es, 0, true⟩) rfl rfl (fun q _ => ?_) lel rfl, map_int]
        · rfl
        · have e1 : ∀ s', bindT 3 (.tp [.nm 6, .nm 7]) (tp2 q) s' (wipe [some (.klst (ns.map D.int)), some (.loc p), some (.frz (.lst (hs.map D.int))), some (.frz (.lst (es.map tp2))), some (.loc A4.length), some (.int x), none, none, y8, none, none, none] [6, 7]) = some [some (.klst (ns.map D.int)), some (.loc p), some (.frz (.lst (hs.map D.int))), some (.frz (.lst (es.map tp2))), some (.loc A4.length), some (.int x), some (.int q.1), some (.int q.2), y8, none, none, none] := fun _ => rfl
          simp only [e1, evTs, evE, List.getElem?_cons_succ, List.getElem?_cons_zero, R.bind_ok, eqI, at?_some, Option.map_some, truth_bl]
          cases decide (q.1 = x) <;> simp only [R.bind_ok, evC, evE, List.getElem?_cons_succ, List.getElem?_cons_zero, if_true] <;> rfl
    · rw [meth_ev (x := .loc A4.length) (vs := [.int x]) (ds := [.int x]) rfl F4.insOf rfl rfl rfl, ccall, sHeard]
      have := heard_run G g.heard g.ck (n + 5) A4.length (A4.length + 1) (A4.length + 2) hs es x ⟨A4 ++ FldB A4.length hs es, 0, true⟩ F4 lel
      rw [if_pos hx] at this
      exact this
    · refine sorted_lc ?_ (fe _ _)
      rw [lc_gen es tp2 (fun q => decide (q.2 = x)) (fun q => .int q.1) (ls := []) (ls' := []) (s' := ⟨A4 ++ FldB A4.length hs es, 0, true⟩) rfl rfl (fun q _ => ?_) lel rfl, map_int]
      · rfl
      · have e1 : ∀ s', bindT 3 (.tp [.nm 6, .nm 7]) (tp2 q) s' (wipe [some (.klst (ns.map D.int)), some (.loc p), some (.frz (.lst (hs.map D.int))), some (.frz (.lst (es.map tp2))), some (.loc A4.length), some (.int x), none, none, y8, none, none, none] [6, 7]) = some [some (.klst (ns.map D.int)), some (.loc p), some (.frz (.lst (hs.map D.int))), some (.frz (.lst (es.map tp2))), some (.loc A4.length), some (.int x), some (.int q.1), some (.int q.2), y8, none, none, none] := fun _ => rfl
        simp only [e1, evTs, evE, List.getElem?_cons_succ, List.getElem?_cons_zero, R.bind_ok, eqI, at?_some, Option.map_some, truth_bl]
        cases decide (q.2 = x) <;> simp only [R.bind_ok, evC, evE, List.getElem?_cons_succ, List.getElem?_cons_zero, if_true] <;> rfl
  obtain ⟨envL, l1, x5, x8, rfl⟩ := forL_inv (fun d env s => match bindT 3 (.nm 5) d s env with
      | some env => evSs C lw8b env s
      | none => .no) D.int (fun env => ∃ x5 x8, env = [some (.klst (ns.map D.int)), some (.loc p), some (.frz (.lst (hs.map D.int))), some (.frz (.lst (es.map tp2))), some (.loc A4.length), x5, none, none, x8, none, none, none]) ⟨A4 ++ FldB A4.length hs es, 0, true⟩ hs [some (.klst (ns.map D.int)), some (.loc p), some (.frz (.lst (hs.map D.int))), some (.frz (.lst (es.map tp2))), some (.loc A4.length), none, none, none, none, none, none, none] (fun x hx env hi => by
      obtain ⟨x5, x8, rfl⟩ := hi
      obtain ⟨y8', q⟩ := hmem x hx x8
      exact ⟨_, q, some (.int x), y8', rfl⟩) ⟨none, none, rfl⟩
  -- strangers
  obtain ⟨lo, A5, t5, p5, n5, m5⟩ := stranger_run G g.stranger g.take (n + 5) p hs A4 (FldB A4.length hs es) 0 true p4 (by have := g.fuel; omega)
  obtain ⟨fa, A6, t6, p6, n6, m6⟩ := stranger_run G g.stranger g.take (n + 5) p (hs ++ [lo]) A5 (FldB A4.length hs es) 0 true p5 (by have := g.fuel; simp; omega)
  obtain ⟨r7, A7, t7, a7, b7, p7⟩ := take_pot G g.take (n + 6) p hs.length A6 (FldB A4.length hs es) 0 true p6 (by omega) (sl (by omega) (by omega))
  obtain ⟨he', hhe⟩ : ∃ y, hs[r7.toNat]? = some y := ⟨hs[r7.toNat]'(by omega), List.getElem?_eq_getElem _⟩
  have hin : he' ∈ hs := List.mem_of_getElem? hhe
  have part3 : evSs C lw8c [some (.klst (ns.map D.int)), some (.loc p), some (.frz (.lst (hs.map D.int))), some (.frz (.lst (es.map tp2))), some (.loc A4.length), x5, none, none, x8, none, none, none] ⟨A4 ++ FldB A4.length hs es, 0, true⟩ = .ok .next [some (.klst (ns.map D.int)), some (.loc p), some (.frz (.lst (hs.map D.int))), some (.frz (.lst (es.map tp2))), some (.loc A4.length), x5, none, none, x8, some (.int lo), some (.int fa), some (.int he')] ⟨A7 ++ FldB A4.length hs es, 0, true⟩ := by
    unfold lw8c
    rw [seq_go (asg_ev (d := .int lo) (s' := ⟨A5 ++ FldB A4.length hs es, 0, true⟩) (by
      simp only [evE, evEs, List.getElem?_cons_succ, List.getElem?_cons_zero, R.bind_ok, srcs, Src.get, ccall, t5]))]
    simp only [List.set_cons_succ, List.set_cons_zero]
    have e6 : ∀ s, bin .add (.frz (.lst (hs.map D.int))) (.frz (.lst [.int lo])) s = .ok (.frz (.lst ((hs ++ [lo]).map D.int))) s := fun s => by
      show mkLst false (hs.map D.int ++ [.int lo]) s = _
      have : hs.map D.int ++ [.int lo] = (hs ++ [lo]).map D.int := by rw [List.map_append]; rfl
      rw [this]
      exact mk_frz (by simp; exact Nat.le_trans (show hs.length + 1 ≤ 100 by omega) (by decide))
    have mk1 : ∀ (a : Int) s, mkLst false [D.int a] s = .ok (.frz (.lst [D.int a])) s := fun a s => if_pos (by show 1 ≤ 16777216; decide)
    rw [seq_go (asg_ev (d := .int fa) (s' := ⟨A6 ++ FldB A4.length hs es, 0, true⟩) (by
      simp only [evE, evEs, List.getElem?_cons_succ, List.getElem?_cons_zero, R.bind_ok, mk1, e6, srcs, Src.get, ccall, t6]))]
    simp only [List.set_cons_succ, List.set_cons_zero]
    have le : ∀ s, bltE .len false [.frz (.lst (hs.map D.int))] s = .ok (.int hs.length) s := fun s => by show R.ok (D.int (hs.map D.int).length) s = _; rw [List.length_map]
    have ix : ixAt (hs.map D.int) r7 = some (.int he') := by
      unfold ixAt
      rw [if_pos a7, List.getElem?_map, hhe]
      rfl
    rw [seq_go (asg_ev (d := .int he') (s' := ⟨A7 ++ FldB A4.length hs es, 0, true⟩) (by
      simp only [evE, evEs, List.getElem?_cons_succ, List.getElem?_cons_zero, R.bind_ok, le, srcs, Src.get, ccall, t7, idx_frz, ix, at?_some]))]
    simp only [List.set_cons_succ, List.set_cons_zero]
    rfl
  have F7 : FieldAt (A7 ++ FldB A4.length hs es) A4.length (A4.length + 1) (A4.length + 2) hs es := F4.mv (by rw [p7.1, p4.1]) (by omega) (by omega) (by omega)
  have n6' : fa ∉ hs := fun h => n6 (List.mem_append_left _ h)
  have wh : ∀ x : Int, whyH C.sub wsH (noHouse x) = some (.tup [.str [78, 111, 72, 111, 117, 115, 101], .int x]) := fun x => by
    unfold wsH whyH noHouse
    rw [csub]
    simp only [g.why, if_true]
    rfl
  have sd : ∀ (x : Int) s, C.call "_law_same" [.tup [.str [78, 111, 72, 111, 117, 115, 101], .int x], .tup [.str [78, 111, 72, 111, 117, 115, 101], .int x]] s = .ok (.bl true) s := fun x s => sm _ 1 (by decide) (by simp [sdat]; decide) s
  have tg : ∀ (i : Nat) (x : Int) (env : Env) s, env[i]? = some (some (.int x)) → evE C (.tup [tagH, .var i]) env s = .ok (.tup [.str [78, 111, 72, 111, 117, 115, 101], .int x]) s := fun i x env s h => by
    simp only [evE, evEs, tagH, h, R.bind_ok]
  have hr : ∀ (i j : Nat) (x y : Int) (env : Env), env[4]? = some (some (.loc A4.length)) → env[i]? = some (some (.int x)) → env[j]? = some (some (.int y)) → (x ∉ hs ∨ (x ∈ hs ∧ y ∉ hs)) → evE C (.why "_law_why" wsH (.meth "Field" "hears" (.var 4) [.var i, .var j] [] [] [.pos 0, .pos 1])) env ⟨A7 ++ FldB A4.length hs es, 0, true⟩ = .ok (.tup [.str [78, 111, 72, 111, 117, 115, 101], .int (if x ∈ hs then y else x)]) ⟨A7 ++ FldB A4.length hs es, 0, true⟩ := fun i j x y env h4 hi hj hxy => by
    refine why_ev (x := noHouse (if x ∈ hs then y else x)) (s' := ⟨A7 ++ FldB A4.length hs es, 0, true⟩) ?_ (wh _)
    rw [meth_ev (x := .loc A4.length) (vs := [.int x, .int y]) (ds := [.int x, .int y]) (by simp only [evE, h4]) F7.insOf rfl (by simp only [evEs, evE, hi, hj, R.bind_ok]) rfl, ccall, sHears]
    have := hears_run G g.hears g.ck (n + 5) A4.length (A4.length + 1) (A4.length + 2) hs es x y ⟨A7 ++ FldB A4.length hs es, 0, true⟩ F7
    rcases hxy with h | ⟨h, h'⟩
    · rw [if_neg h] at this
      rw [if_neg h]
      exact this
    · rw [if_pos h, if_neg h'] at this
      rw [if_pos h]
      exact this
  have part4 : evSs C lw8d [some (.klst (ns.map D.int)), some (.loc p), some (.frz (.lst (hs.map D.int))), some (.frz (.lst (es.map tp2))), some (.loc A4.length), x5, none, none, x8, some (.int lo), some (.int fa), some (.int he')] ⟨A7 ++ FldB A4.length hs es, 0, true⟩ = .ok .next [some (.klst (ns.map D.int)), some (.loc p), some (.frz (.lst (hs.map D.int))), some (.frz (.lst (es.map tp2))), some (.loc A4.length), x5, none, none, x8, some (.int lo), some (.int fa), some (.int he')] ⟨A7 ++ FldB A4.length hs es, 0, true⟩ := by
    unfold lw8d sameT
    rw [seq_go (same_ifs (hr 9 11 lo he' _ rfl rfl rfl (.inl n5)) (tg 9 lo _ _ rfl) (by rw [if_neg n5]; exact sd lo _))]
    rw [seq_go (same_ifs (hr 11 9 he' lo _ rfl rfl rfl (.inr ⟨hin, n5⟩)) (tg 9 lo _ _ rfl) (by rw [if_pos hin]; exact sd lo _))]
    rw [seq_go (same_ifs (hr 10 9 fa lo _ rfl rfl rfl (.inl n6')) (tg 10 fa _ _ rfl) (by rw [if_neg n6']; exact sd fa _))]
    rw [seq_go (same_ifs (d := .tup [.str [78, 111, 72, 111, 117, 115, 101], .int lo]) (s1 := ⟨A7 ++ FldB A4.length hs es, 0, true⟩) ?_ (tg 9 lo _ _ rfl) (sd lo _))]
    · rfl
    · refine why_ev (x := noHouse lo) (s' := ⟨A7 ++ FldB A4.length hs es, 0, true⟩) ?_ (wh _)
      rw [meth_ev (x := .loc A4.length) (vs := [.int lo]) (ds := [.int lo]) rfl F7.insOf rfl rfl rfl, ccall, sHeard]
      have := heard_run G g.heard g.ck (n + 5) A4.length (A4.length + 1) (A4.length + 2) hs es lo ⟨A7 ++ FldB A4.length hs es, 0, true⟩ F7 lel
      rw [if_neg n5] at this
      exact this
  have part5 : evE C lw8r [some (.klst (ns.map D.int)), some (.loc p), some (.frz (.lst (hs.map D.int))), some (.frz (.lst (es.map tp2))), some (.loc A4.length), x5, none, none, x8, some (.int lo), some (.int fa), some (.int he')] ⟨A7 ++ FldB A4.length hs es, 0, true⟩ = .ok (.bl true) ⟨A7 ++ FldB A4.length hs es, 0, true⟩ := by
    unfold lw8r
    refine same_ret (d := .tup [.str [78, 111, 72, 111, 117, 115, 101], .int fa]) (s1 := ⟨A7 ++ FldB A4.length hs es, 0, true⟩) ?_ (tg 10 fa _ _ rfl) (sd fa _)
    refine why_ev (x := noHouse fa) (s' := ⟨A7 ++ FldB A4.length hs es, 0, true⟩) ?_ (wh _)
    rw [meth_ev (x := .loc A4.length) (vs := [.int fa]) (ds := [.int fa]) rfl F7.insOf rfl rfl rfl, ccall, sHearers]
    have := hearers_run G g.hearers g.ck (n + 5) A4.length (A4.length + 1) (A4.length + 2) hs es fa ⟨A7 ++ FldB A4.length hs es, 0, true⟩ F7 lel
    rw [if_neg n6'] at this
    exact this
  have go : evSs C fLaw8.body ([D.klst (ns.map D.int)].map some ++ List.replicate (fLaw8.ns - fLaw8.np) none) ⟨[], 0, false⟩ = .ok (.ret (.bl true)) [some (.klst (ns.map D.int)), some (.loc p), some (.frz (.lst (hs.map D.int))), some (.frz (.lst (es.map tp2))), some (.loc A4.length), x5, none, none, x8, some (.int lo), some (.int fa), some (.int he')] ⟨A7 ++ FldB A4.length hs es, 0, true⟩ := by
    show evSs C (lw8a ++ (.for (.nm 5) (.it (.var 2)) lw8b :: (lw8c ++ (lw8d ++ [.ret (some lw8r)])))) [some (.klst (ns.map D.int)), none, none, none, none, none, none, none, none, none, none, none] _ = _
    rw [seq_app, part1]
    dsimp only
    rw [seq_go (for_frz rfl l1), seq_app, part3]
    dsimp only
    rw [seq_app, part4]
    dsimp only
    rw [seq_cons]
    simp only [evS, part5, R.then_ok]
  exact ⟨_, by
    show finR ⟨[], 0, false⟩ (evSs C fLaw8.body _ ⟨[], 0, false⟩) = _
    rw [go]
    rfl⟩
end Fn

set_option linter.all false
set_option maxRecDepth 100000
set_option maxHeartbeats 2000000
namespace Fn
/-! P20: hops: why two clash. -/
/-- if c: return e -/
theorem ifret {C : Ctx} {c e : ME} {rest : List MS} {env : Env} {s : Sto} {bv : Bool} {d d' : D} (hc : evE C c env s = .ok (.bl bv) s) (he : bv = true → evE C e env s = .ok d s) (hr : bv = false → evSs C rest env s = .ok (.ret d') env s) :
    evSs C (.ifs c [.ret (some e)] [] :: rest) env s = .ok (.ret (if bv = true then d else d')) env s := by
  rw [seq_cons]
  cases bv with
  | true => simp only [evS, hc, R.then_ok, truth_bl, evSs, he rfl, if_true]
  | false =>
    simp only [evS, hc, R.then_ok, truth_bl, evSs, hr rfl]
    rfl
theorem ret_ev {C : Ctx} {e : ME} {env : Env} {s s' : Sto} {d : D} (h : evE C e env s = .ok d s') : evSs C [.ret (some e)] env s = .ok (.ret d) env s' := by
  simp only [evSs, evS, h, R.then_ok]
/-- names out of a pair -/
theorem asg_tp2 {C : Ctx} {i j : Nat} {e : ME} {env : Env} {s s' : Sto} {a b : D} (h : evE C e env s = .ok (.tup [a, b]) s') : evS C (.asg [.tp [.nm i, .nm j]] e) env s = .ok .next ((env.set i (some a)).set j (some b)) s' := by
  have sq : ∀ s, seqOf (.tup [a, b]) s = some [a, b] := fun _ => rfl
  have td : tupD (.tup [a, b]) = true := rfl
  simp only [evS, h, R.then_ok, asgTs, asgT, sq, td, if_true, bindNames, at?_some, R.bind_ok]
theorem eqT (q r : Int × Int) (s : Sto) : cmp .eq (.tup [.int q.1, .int q.2]) (.tup [.int r.1, .int r.2]) s = some (decide (q = r)) := by
  show (if dat 60 (tp2 q) = true ∧ dat 60 (tp2 r) = true then some (peq (tp2 q) (tp2 r)) else none) = _
  rw [if_pos ⟨rfl, rfl⟩, peqT]
theorem cmp_ev {C : Ctx} {op : Cop} {a b : ME} {env : Env} {s s1 s2 : Sto} {x y : D} {bv : Bool} (ha : evE C a env s = .ok x s1) (hb : evE C b env s1 = .ok y s2) (hc : cmp op x y s2 = some bv) : evE C (.cmp op a b) env s = .ok (.bl bv) s2 := by
  simp only [evE, ha, hb, R.bind_ok, hc, Option.map_some, at?_some]
/-! sorted ears -/
def leP (a b : Int × Int) : Bool := leT [a.1, a.2] [b.1, b.2]
def srtT (es : List (Int × Int)) : List (Int × Int) := es.mergeSort leP
theorem srtT_perm (es : List (Int × Int)) : (srtT es).Perm es := List.mergeSort_perm es leP
theorem srtT_mem {es : List (Int × Int)} {q : Int × Int} : q ∈ srtT es ↔ q ∈ es := (srtT_perm es).mem_iff
theorem tupsOf_mp : ∀ es : List (Int × Int), tupsOf (es.map tp2) = some (es.map fun q => [q.1, q.2])
  | [] => rfl
  | q :: es => by
    have h := tupsOf_mp es
    simp [tp2, tupsOf, intsOf] at h ⊢
    rw [h]
theorem sortD_tps (es : List (Int × Int)) : sortD (es.map tp2) = some ((srtT es).map tp2) := by
  cases es with
  | nil => simp [sortD, intsOf, srtT]
  | cons q es =>
    unfold sortD
    have i0 : intsOf ((q :: es).map tp2) = none := rfl
    rw [i0, tupsOf_mp]
    dsimp only
    rw [if_pos (.inr (List.all_eq_true.mpr fun t ht => by
      obtain ⟨r, _, rfl⟩ := List.mem_map.mp ht
      rfl))]
    have e := List.map_mergeSort (r := leP) (s := leT) (f := fun q : Int × Int => [q.1, q.2]) (l := q :: es) (fun a _ b _ => rfl)
    rw [← e, List.map_map]
    rfl
def fAllEars : Fd := ⟨1, 1, [.ret (some (.blt .sorted false [.fld ["Field"] (.var 0) "pairs"]))]⟩
theorem sAllEars : "Field" ++ "." ++ "all_ears" = "Field.all_ears" := by decide
theorem allears_run (G : Pg) (h : G.fn "Field.all_ears" = some fAllEars) (n : Nat) (l a c : Nat) (hs : List Int) (es : List (Int × Int)) (s : Sto) (F : FieldAt s.ob l a c hs es) (hl : es.length ≤ lenLine) :
    run G (n + 1) "Field.all_ears" [.loc l] s = .ok (.frz (.lst ((srtT es).map tp2))) s := by
  rw [run_eq G n _ _ h _ _ rfl (by decide)]
  have F' : FieldAt (⟨s.ob, s.ob.length, false⟩ : Sto).ob l a c hs es := F
  refine Eq.trans ?_ (fin_pure s _ [some (.loc l)] (lf_tps _))
  refine congrArg (finR s) (ret_ev ?_)
  have so : ∀ (b : Nat) (e : Bool), bltE .sorted false [.loc c] ⟨s.ob, b, e⟩ = .ok (.frz (.lst ((srtT es).map tp2))) ⟨s.ob, b, e⟩ := fun b e => by
    show (match srtItems (.loc c) ⟨s.ob, b, e⟩ with | some ds => (match sortD ds with | some es => mkLst false es _ | none => .no) | none => .no) = _
    have si : srtItems (.loc c) ⟨s.ob, b, e⟩ = some (es.map tp2) := by
      unfold srtItems
      rw [FieldAt.dct2 (b := b) (e := e) F]
      show (if true = true ∨ _ then some ((es.map ek).map fun p => p.1.d) else none) = _
      rw [if_pos (.inl rfl), List.map_map]
      rfl
    rw [si]
    dsimp only
    rw [sortD_tps]
    exact mk_frz (by rw [List.length_map, (srtT_perm es).length_eq]; exact hl)
  simp only [evE, evEs, List.map_cons, List.map_nil, List.cons_append, List.nil_append, List.getElem?_cons_succ, List.getElem?_cons_zero, R.bind_ok, F'.fld2, at?_some, so]
def fCheckHop : Fd := ⟨2, 4, [
    .asg [.tp [.nm 2, .nm 3]] (.var 1),
    .ifs (.cmp .notin (.tup [.var 2, .var 3]) (.meth "Field" "all_ears" (.var 0) [] [] [] [])) [.raise "NoEar" ["speaker", "listener"] [.var 2, .var 3]] []]⟩
def noEar (q : Int × Int) : Xn := ⟨"NoEar", [("speaker", .int q.1), ("listener", .int q.2)]⟩
theorem notin_tps (x y : Int) (l : List (Int × Int)) (s : Sto) : cmp .notin (.tup [.int x, .int y]) (.frz (.lst (l.map tp2))) s = some (!decide ((x, y) ∈ l)) := by
  show (memL (tp2 (x, y)) (l.map tp2)).map (fun b => !b) = _
  rw [memT]
  rfl
theorem checkhop_run (G : Pg) (h : G.fn "check_hop" = some fCheckHop) (ha : G.fn "Field.all_ears" = some fAllEars) (n : Nat) (l a c : Nat) (hs : List Int) (es : List (Int × Int)) (q : Int × Int) (s : Sto) (F : FieldAt s.ob l a c hs es) (hl : es.length ≤ lenLine) :
    run G (n + 2) "check_hop" [.loc l, tp2 q] s = if q ∈ es then .ok .non s else .ex (noEar q) s := by
  rw [run_eq G (n + 1) _ _ h _ _ rfl (by decide)]
  have F' : FieldAt (⟨s.ob, s.ob.length, false⟩ : Sto).ob l a c hs es := F
  have rp : ([D.loc l, tp2 q].map some ++ List.replicate (fCheckHop.ns - fCheckHop.np) (none : Option D)) = [some (.loc l), some (.tup [.int q.1, .int q.2]), none, none] := rfl
  have z := meth_ev (C := ⟨run G (n + 1), G.fuel, none, G.sub⟩) (c := "Field") (m := "all_ears") (o := .var 0) (es := []) (pl := []) (env := [some (.loc l), some (.tup [.int q.1, .int q.2]), some (.int q.1), some (.int q.2)]) (s := ⟨s.ob, s.ob.length, false⟩) (x := .loc l) (vs := []) (ds := []) rfl F'.insOf rfl rfl rfl
  rw [sAllEars] at z
  have z2 := allears_run G ha n l a c hs es ⟨s.ob, s.ob.length, false⟩ F hl
  have z3 := z.trans z2
  have cnd : evE ⟨run G (n + 1), G.fuel, none, G.sub⟩ (.cmp .notin (.tup [.var 2, .var 3]) (.meth "Field" "all_ears" (.var 0) [] [] [] [])) [some (.loc l), some (.tup [.int q.1, .int q.2]), some (.int q.1), some (.int q.2)] ⟨s.ob, s.ob.length, false⟩ = .ok (.bl (!decide (q ∈ es))) ⟨s.ob, s.ob.length, false⟩ := by
    refine cmp_ev (x := .tup [.int q.1, .int q.2]) rfl z3 (by rw [notin_tps]; exact congrArg (fun b => some !b) (decide_eq_decide.mpr srtT_mem))
  rw [rp]
  have go : evSs ⟨run G (n + 1), G.fuel, none, G.sub⟩ fCheckHop.body [some (.loc l), some (.tup [.int q.1, .int q.2]), none, none] ⟨s.ob, s.ob.length, false⟩ = if q ∈ es then .ok .next [some (.loc l), some (.tup [.int q.1, .int q.2]), some (.int q.1), some (.int q.2)] ⟨s.ob, s.ob.length, false⟩ else .ex (noEar q) [some (.loc l), some (.tup [.int q.1, .int q.2]), some (.int q.1), some (.int q.2)] ⟨s.ob, s.ob.length, false⟩ := by
    show evSs _ (_ :: [_]) _ _ = _
    rw [seq_go (asg_tp2 (a := .int q.1) (b := .int q.2) rfl)]
    simp only [List.set_cons_succ, List.set_cons_zero]
    rw [seq_cons]
    simp only [evS]
    rw [cnd]
    simp only [R.then_ok, truth_bl]
    by_cases hq : q ∈ es
    · rw [if_pos hq, decide_eq_true hq]
      rfl
    · rw [if_neg hq, decide_eq_false hq]
      rfl
  show finR s (evSs _ fCheckHop.body _ ⟨s.ob, s.ob.length, false⟩) = _
  rw [go]
  by_cases hq : q ∈ es
  · rw [if_pos hq, if_pos hq]
    exact fin_next s _
  · rw [if_neg hq, if_neg hq]
    exact ex_pure s _ _ rfl
/-- the told rows -/
def sSame : List Nat := [115, 97, 109, 101]
def sSpeaks : List Nat := [115, 112, 101, 97, 107, 115]
def sListens : List Nat := [108, 105, 115, 116, 101, 110, 115]
def sEar : List Nat := [101, 97, 114]
def rsn (t : List Nat) (x : Int) : D := .tup [.str t, .int x]
def reasonD (es : List (Int × Int)) (q r : Int × Int) : D :=
  if decide (q = r) = true then rsn sSame q.1 else if decide (q.1 = r.1) = true then rsn sSpeaks q.1 else if decide (q.2 = r.1) = true then rsn sListens q.2 else if decide (r.2 = q.1) = true then rsn sListens r.2
  else if decide ((r.1, q.2) ∈ es) = true then rsn sEar q.2 else if decide ((q.1, r.2) ∈ es) = true then rsn sEar r.2 else .non
theorem reasonD_sdat (es : List (Int × Int)) (q r : Int × Int) : sdat 1 (reasonD es q r) = true := by
  unfold reasonD
  repeat' split
  all_goals rfl
theorem reasonD_lf (es : List (Int × Int)) (q r : Int × Int) : (reasonD es q r).lf = true := by
  unfold reasonD
  repeat' split
  all_goals rfl
def fReason : Fd := ⟨3, 7, [
    .asg [.tp [.nm 3, .nm 4]] (.var 1),
    .asg [.tp [.nm 5, .nm 6]] (.var 2),
    .ifs (.cmp .eq (.var 1) (.var 2)) [.ret (some (.tup [.cst (.str [115, 97, 109, 101]), .var 3]))] [],
    .ifs (.cmp .eq (.var 3) (.var 5)) [.ret (some (.tup [.cst (.str [115, 112, 101, 97, 107, 115]), .var 3]))] [],
    .ifs (.cmp .eq (.var 4) (.var 5)) [.ret (some (.tup [.cst (.str [108, 105, 115, 116, 101, 110, 115]), .var 4]))] [],
    .ifs (.cmp .eq (.var 6) (.var 3)) [.ret (some (.tup [.cst (.str [108, 105, 115, 116, 101, 110, 115]), .var 6]))] [],
    .ifs (.meth "Field" "hears" (.var 0) [.var 4, .var 5] [] [] [.pos 0, .pos 1]) [.ret (some (.tup [.cst (.str [101, 97, 114]), .var 4]))] [],
    .ifs (.meth "Field" "hears" (.var 0) [.var 6, .var 3] [] [] [.pos 0, .pos 1]) [.ret (some (.tup [.cst (.str [101, 97, 114]), .var 6]))] [],
    .ret (some (.cst .non))]⟩
theorem reason_run (G : Pg) (h : G.fn "reason" = some fReason) (hh : G.fn "Field.hears" = some fHears) (hc : G.fn "Field.check" = some fCheck) (n : Nat) (l a c : Nat) (hs : List Int) (es : List (Int × Int)) (q r : Int × Int) (s : Sto) (F : FieldAt s.ob l a c hs es) (q1 : q.1 ∈ hs) (q2 : q.2 ∈ hs) (r1 : r.1 ∈ hs) (r2 : r.2 ∈ hs) :
    run G (n + 3) "reason" [.loc l, tp2 q, tp2 r] s = .ok (reasonD es q r) s := by
  rw [run_eq G (n + 2) _ _ h _ _ rfl (by decide)]
  have F' : FieldAt (⟨s.ob, s.ob.length, false⟩ : Sto).ob l a c hs es := F
  have rp : ([D.loc l, tp2 q, tp2 r].map some ++ List.replicate (fReason.ns - fReason.np) (none : Option D)) = [some (.loc l), some (.tup [.int q.1, .int q.2]), some (.tup [.int r.1, .int r.2]), none, none, none, none] := rfl
  rw [rp, ← fin_pure s (reasonD es q r) [some (.loc l), some (.tup [.int q.1, .int q.2]), some (.tup [.int r.1, .int r.2]), some (.int q.1), some (.int q.2), some (.int r.1), some (.int r.2)] (reasonD_lf es q r)]
  refine congrArg (finR s) ?_
  have hr : ∀ (i j : Nat) (x y : Int) (env : Env), env[0]? = some (some (.loc l)) → env[i]? = some (some (.int x)) → env[j]? = some (some (.int y)) → x ∈ hs → y ∈ hs → evE ⟨run G (n + 2), G.fuel, none, G.sub⟩ (.meth "Field" "hears" (.var 0) [.var i, .var j] [] [] [.pos 0, .pos 1]) env ⟨s.ob, s.ob.length, false⟩ = .ok (.bl (decide ((y, x) ∈ es))) ⟨s.ob, s.ob.length, false⟩ := fun i j x y env h0 hi hj hx hy => by
    rw [meth_ev (x := .loc l) (vs := [.int x, .int y]) (ds := [.int x, .int y]) (by simp only [evE, h0]) F'.insOf rfl (by simp only [evEs, evE, hi, hj, R.bind_ok]) rfl, sHears]
    have := hears_run G hh hc n l a c hs es x y ⟨s.ob, s.ob.length, false⟩ F
    rw [if_pos hx, if_pos hy] at this
    exact this
  show evSs _ (_ :: _ :: _) _ _ = _
  rw [seq_go (asg_tp2 (a := .int q.1) (b := .int q.2) rfl)]
  simp only [List.set_cons_succ, List.set_cons_zero]
  rw [seq_go (asg_tp2 (a := .int r.1) (b := .int r.2) rfl)]
  simp only [List.set_cons_succ, List.set_cons_zero]
  unfold reasonD
  refine ifret (by simp only [evE, List.getElem?_cons_succ, List.getElem?_cons_zero, R.bind_ok, eqT, Option.map_some, at?_some]) (fun _ => rfl) fun _ => ?_
  refine ifret (by simp only [evE, List.getElem?_cons_succ, List.getElem?_cons_zero, R.bind_ok, eqI, Option.map_some, at?_some]) (fun _ => rfl) fun _ => ?_
  refine ifret (by simp only [evE, List.getElem?_cons_succ, List.getElem?_cons_zero, R.bind_ok, eqI, Option.map_some, at?_some]) (fun _ => rfl) fun _ => ?_
  refine ifret (by simp only [evE, List.getElem?_cons_succ, List.getElem?_cons_zero, R.bind_ok, eqI, Option.map_some, at?_some]) (fun _ => rfl) fun _ => ?_
  refine ifret (hr 4 5 q.2 r.1 _ rfl rfl rfl q2 r1) (fun _ => rfl) fun _ => ?_
  refine ifret (hr 6 3 r.2 q.1 _ rfl rfl rfl r2 q1) (fun _ => rfl) fun _ => ?_
  rfl
def fLawReason : Fd := ⟨3, 3, [
    .ifs (.cmp .eq (.var 1) (.var 2)) [.ret (some (.tup [.cst (.str [115, 97, 109, 101]), .idx (.var 1) (.cst (.int 0))]))] [],
    .ifs (.cmp .eq (.idx (.var 1) (.cst (.int 0))) (.idx (.var 2) (.cst (.int 0)))) [.ret (some (.tup [.cst (.str [115, 112, 101, 97, 107, 115]), .idx (.var 1) (.cst (.int 0))]))] [],
    .ifs (.cmp .eq (.idx (.var 1) (.cst (.int 1))) (.idx (.var 2) (.cst (.int 0)))) [.ret (some (.tup [.cst (.str [108, 105, 115, 116, 101, 110, 115]), .idx (.var 1) (.cst (.int 1))]))] [],
    .ifs (.cmp .eq (.idx (.var 2) (.cst (.int 1))) (.idx (.var 1) (.cst (.int 0)))) [.ret (some (.tup [.cst (.str [108, 105, 115, 116, 101, 110, 115]), .idx (.var 2) (.cst (.int 1))]))] [],
    .ifs (.cmp .isin (.tup [.idx (.var 2) (.cst (.int 0)), .idx (.var 1) (.cst (.int 1))]) (.var 0)) [.ret (some (.tup [.cst (.str [101, 97, 114]), .idx (.var 1) (.cst (.int 1))]))] [],
    .ifs (.cmp .isin (.tup [.idx (.var 1) (.cst (.int 0)), .idx (.var 2) (.cst (.int 1))]) (.var 0)) [.ret (some (.tup [.cst (.str [101, 97, 114]), .idx (.var 2) (.cst (.int 1))]))] [],
    .ret (some (.cst .non))]⟩
theorem lawreason_run (G : Pg) (h : G.fn "_law_reason" = some fLawReason) (n : Nat) (es : List (Int × Int)) (q r : Int × Int) (s : Sto) : run G (n + 1) "_law_reason" [.frz (.lst (es.map tp2)), tp2 q, tp2 r] s = .ok (reasonD es q r) s := by
  rw [run_eq G n _ _ h _ _ rfl (by decide)]
  have rp : ([D.frz (.lst (es.map tp2)), tp2 q, tp2 r].map some ++ List.replicate (fLawReason.ns - fLawReason.np) (none : Option D)) = [some (.frz (.lst (es.map tp2))), some (.tup [.int q.1, .int q.2]), some (.tup [.int r.1, .int r.2])] := rfl
  rw [rp, ← fin_pure s (reasonD es q r) [some (.frz (.lst (es.map tp2))), some (.tup [.int q.1, .int q.2]), some (.tup [.int r.1, .int r.2])] (reasonD_lf es q r)]
  refine congrArg (finR s) ?_
  unfold reasonD
  have i0 : ∀ (a b : Int) s, idx (.tup [.int a, .int b]) (.int 0) s = some (.int a) := fun _ _ _ => rfl
  have i1 : ∀ (a b : Int) s, idx (.tup [.int a, .int b]) (.int 1) s = some (.int b) := fun _ _ _ => rfl
  show evSs _ (_ :: _) _ _ = _
  refine ifret (by simp only [evE, List.getElem?_cons_succ, List.getElem?_cons_zero, R.bind_ok, eqT, Option.map_some, at?_some]) (fun _ => rfl) fun _ => ?_
  refine ifret (by simp only [evE, List.getElem?_cons_succ, List.getElem?_cons_zero, R.bind_ok, i0, i1, eqI, Option.map_some, at?_some]) (fun _ => rfl) fun _ => ?_
  refine ifret (by simp only [evE, List.getElem?_cons_succ, List.getElem?_cons_zero, R.bind_ok, i0, i1, eqI, Option.map_some, at?_some]) (fun _ => rfl) fun _ => ?_
  refine ifret (by simp only [evE, List.getElem?_cons_succ, List.getElem?_cons_zero, R.bind_ok, i0, i1, eqI, Option.map_some, at?_some]) (fun _ => rfl) fun _ => ?_
  refine ifret (by simp only [evE, evEs, List.getElem?_cons_succ, List.getElem?_cons_zero, R.bind_ok, i0, i1, isin_tps, Option.map_some, at?_some]) (fun _ => rfl) fun _ => ?_
  refine ifret (by simp only [evE, evEs, List.getElem?_cons_succ, List.getElem?_cons_zero, R.bind_ok, i0, i1, isin_tps, Option.map_some, at?_some]) (fun _ => rfl) fun _ => ?_
  rfl
def fClash : Fd := ⟨3, 3, [
    .exp (.call "check_hop" [.var 0, .var 1] [] [] [.pos 0, .pos 1]),
    .exp (.call "check_hop" [.var 0, .var 2] [] [] [.pos 0, .pos 1]),
    .ret (some (.call "reason" [.var 0, .var 1, .var 2] [] [] [.pos 0, .pos 1, .pos 2]))]⟩
theorem clash_run (G : Pg) (h : G.fn "clash" = some fClash) (hp : G.fn "check_hop" = some fCheckHop) (ha : G.fn "Field.all_ears" = some fAllEars) (hr : G.fn "reason" = some fReason) (hh : G.fn "Field.hears" = some fHears) (hc : G.fn "Field.check" = some fCheck) (n : Nat) (l a c : Nat) (hs : List Int) (es : List (Int × Int)) (q r : Int × Int) (s : Sto) (F : FieldAt s.ob l a c hs es) (hl : es.length ≤ lenLine) (he : EarL hs es) :
    run G (n + 4) "clash" [.loc l, tp2 q, tp2 r] s = if q ∈ es then if r ∈ es then .ok (reasonD es q r) s else .ex (noEar r) s else .ex (noEar q) s := by
  rw [run_eq G (n + 3) _ _ h _ _ rfl (by decide)]
  have rp : ([D.loc l, tp2 q, tp2 r].map some ++ List.replicate (fClash.ns - fClash.np) (none : Option D)) = [some (.loc l), some (tp2 q), some (tp2 r)] := rfl
  rw [rp]
  have c1 := fun z => checkhop_run G hp ha (n + 1) l a c hs es z ⟨s.ob, s.ob.length, false⟩ F hl
  by_cases hq : q ∈ es
  · have cq := (c1 q).trans (if_pos hq)
    rw [if_pos hq]
    by_cases hr' : r ∈ es
    · have cr := (c1 r).trans (if_pos hr')
      rw [if_pos hr']
      have re := reason_run G hr hh hc n l a c hs es q r ⟨s.ob, s.ob.length, false⟩ F (he.2 q hq).1 (he.2 q hq).2.1 (he.2 r hr').1 (he.2 r hr').2.1
      refine Eq.trans ?_ (fin_pure s _ [some (.loc l), some (tp2 q), some (tp2 r)] (reasonD_lf es q r))
      refine congrArg (finR s) ?_
      simp only [fClash, evSs, evS, evE, evEs, List.getElem?_cons_succ, List.getElem?_cons_zero, R.bind_ok, R.then_ok, srcs, Src.get, cq, cr, re]
    · have cr := (c1 r).trans (if_neg hr')
      rw [if_neg hr']
      refine Eq.trans ?_ (ex_pure s _ [some (.loc l), some (tp2 q), some (tp2 r)] rfl)
      refine congrArg (finR s) ?_
      simp only [fClash, evSs, evS, evE, evEs, List.getElem?_cons_succ, List.getElem?_cons_zero, R.bind_ok, R.then_ok, srcs, Src.get, cq, cr, R.then_ex]
  · have cq := (c1 q).trans (if_neg hq)
    rw [if_neg hq]
    refine Eq.trans ?_ (ex_pure s _ [some (.loc l), some (tp2 q), some (tp2 r)] rfl)
    refine congrArg (finR s) ?_
    simp only [fClash, evSs, evS, evE, evEs, List.getElem?_cons_succ, List.getElem?_cons_zero, R.bind_ok, R.then_ok, srcs, Src.get, cq, R.then_ex]
end Fn

set_option linter.all false
set_option maxRecDepth 100000
set_option maxHeartbeats 2000000
namespace Fn
/-! P21: words for single steps; k14's law. -/
theorem var_ev {C : Ctx} {i : Nat} {env : Env} {s : Sto} {d : D} (h : env[i]? = some (some d)) : evE C (.var i) env s = .ok d s := by
  simp only [evE, h]
theorem call_ev {C : Ctx} {f : String} {es : List ME} {pl : List Src} {env : Env} {s s1 : Sto} {vs ds : List D} (he : evEs C es env s = .ok vs s1) (hp : srcs pl vs [] = some ds) : evE C (.call f es [] [] pl) env s = C.call f ds s1 := by
  simp only [evE, he, R.bind_ok, evEs, hp]
theorem evs_cons {C : Ctx} {e : ME} {es : List ME} {env : Env} {s s1 s2 : Sto} {d : D} {ds : List D} (h1 : evE C e env s = .ok d s1) (h2 : evEs C es env s1 = .ok ds s2) : evEs C (e :: es) env s = .ok (d :: ds) s2 := by
  simp only [evEs, h1, h2, R.bind_ok]
theorem evs_nil {C : Ctx} {env : Env} {s : Sto} : evEs C [] env s = .ok [] s := rfl
theorem bin_ev {C : Ctx} {op : Bop} {a b : ME} {env : Env} {s s1 s2 s3 : Sto} {x y z : D} (ha : evE C a env s = .ok x s1) (hb : evE C b env s1 = .ok y s2) (hz : bin op x y s2 = .ok z s3) : evE C (.bin op a b) env s = .ok z s3 := by
  simp only [evE, ha, hb, R.bind_ok, hz]
theorem idx_ev {C : Ctx} {a b : ME} {env : Env} {s s1 s2 : Sto} {x y z : D} (ha : evE C a env s = .ok x s1) (hb : evE C b env s1 = .ok y s2) (hz : idx x y s2 = some z) : evE C (.idx a b) env s = .ok z s2 := by
  simp only [evE, ha, hb, R.bind_ok, hz, at?_some]
theorem not_ev {C : Ctx} {a : ME} {env : Env} {s s1 : Sto} {b : Bool} (ha : evE C a env s = .ok (.bl b) s1) : evE C (.not a) env s = .ok (.bl (!b)) s1 := by
  simp only [evE, ha, R.bind_ok, truth_bl, Option.map_some, at?_some]
theorem lst_ev {C : Ctx} {es : List ME} {env : Env} {s s1 : Sto} {ds : List D} (h : evEs C es env s = .ok ds s1) (hl : ds.length ≤ lenLine) : evE C (.lst false es) env s = .ok (.frz (.lst ds)) s1 := by
  simp only [evE, h, R.bind_ok]
  exact mk_frz hl
theorem same_st {C : Ctx} {X Y : ME} {env : Env} {s s1 s2 s3 : Sto} {d d' : D} (hX : evE C X env s = .ok d s1) (hY : evE C Y env s1 = .ok d' s2) (hS : C.call "_law_same" [d, d'] s2 = .ok (.bl true) s3) : evS C (sameT X Y) env s = .ok .next env s3 := same_ifs hX hY hS
/-- an if by its test's truth -/
theorem ifs_ev {C : Ctx} {c : ME} {a b : List MS} {env : Env} {s s1 : Sto} {d : D} {bv : Bool} (hc : evE C c env s = .ok d s1) (ht : truth d s1 = some bv) : evS C (.ifs c a b) env s = if bv = true then evSs C a env s1 else evSs C b env s1 := by
  simp only [evS, hc, R.then_ok, ht]
  cases bv <;> rfl
theorem ifs_t {C : Ctx} {c : ME} {a b : List MS} {env : Env} {s s1 : Sto} {d : D} {r : RS} (hc : evE C c env s = .ok d s1) (ht : truth d s1 = some true) (h : evSs C a env s1 = r) : evS C (.ifs c a b) env s = r := by
  simp only [evS, hc, R.then_ok, ht]
  exact h
theorem ifs_f {C : Ctx} {c : ME} {a b : List MS} {env : Env} {s s1 : Sto} {d : D} {r : RS} (hc : evE C c env s = .ok d s1) (ht : truth d s1 = some false) (h : evSs C b env s1 = r) : evS C (.ifs c a b) env s = r := by
  simp only [evS, hc, R.then_ok, ht]
  exact h
/-- a loop over what never changes -/
theorem for_it {C : Ctx} {t : Tgt} {e : ME} {bd : List MS} {ds : List D} {env env' : Env} {s s1 s' : Sto} {f : Flow} (h : evE C e env s = .ok (.frz (.lst ds)) s1)
    (q : forL (fun d env s => match bindT 3 t d s env with
        | some env => evSs C bd env s
        | none => .no) ds env s1 = .ok f env' s') : evS C (.for t (.it e) bd) env s = .ok f env' s' := by
  have e1 : evI C (.it e) env s = .ok (ds, []) s1 := by
    simp only [evI, h, R.bind_ok]
    rfl
  simp only [evS, e1, R.then_ok, lockAll]
  erw [q]
  rfl
theorem for_rng {C : Ctx} {t : Tgt} {e : ME} {bd : List MS} {i : Int} {env env' : Env} {s s1 s' : Sto} {f : Flow} (h : evE C e env s = .ok (.int i) s1) (h0 : -1000000 ≤ i ∧ i < 1000000)
    (q : forL (fun d env s => match bindT 3 t d s env with
        | some env => evSs C bd env s
        | none => .no) ((List.range i.toNat).map fun (k : Nat) => .int (k : Int)) env s1 = .ok f env' s') : evS C (.for t (.rng e) bd) env s = .ok f env' s' := by
  have e1 : evI C (.rng e) env s = .ok ((List.range i.toNat).map (fun (k : Nat) => D.int (k : Int)), []) s1 := by
    simp only [evI, h, R.bind_ok]
    rw [if_pos ⟨by omega, by omega⟩]
  simp only [evS, e1, R.then_ok, lockAll]
  erw [q]
  rfl
/-- a loop whose rounds keep what they need, the store's too -/
theorem forL_invS {α : Type} (F : D → Env → Sto → RS) (g : α → D) (I : Env → Sto → Prop) : ∀ (xs : List α) (env : Env) (s : Sto), (∀ x ∈ xs, ∀ env s, I env s → ∃ env' s', F (g x) env s = .ok .next env' s' ∧ I env' s') → I env s → ∃ env' s', forL F (xs.map g) env s = .ok .next env' s' ∧ I env' s'
  | [], env, s, _, h => ⟨env, s, rfl, h⟩
  | x :: xs, env, s, hF, h => by
    obtain ⟨e1, s1, q1, i1⟩ := hF x List.mem_cons_self env s h
    obtain ⟨e2, s2, q2, i2⟩ := forL_invS F g I xs e1 s1 (fun y hy => hF y (List.mem_cons_of_mem _ hy)) i1
    refine ⟨e2, s2, ?_, i2⟩
    show (match F (g x) env s with | .ok .next env s => forL F (xs.map g) env s | r => r) = _
    rw [q1]
    exact q2
theorem zip_ev {C : Ctx} {a b : ME} {env : Env} {s s1 s2 : Sto} {ds es : List D} (ha : evE C a env s = .ok (.frz (.lst ds)) s1) (hb : evE C b env s1 = .ok (.frz (.lst es)) s2) : evI C (.zip a b) env s = .ok ((ds.zip es).map (fun p => D.tup [p.1, p.2]), []) s2 := by
  simp only [evI, ha, hb, R.bind_ok]
  rfl
theorem cutL_map {α β : Type} (f : α → β) (l : List α) (lo hi : Option Int) : cutL (l.map f) lo hi = (cutL l lo hi).map f := by
  unfold cutL
  rw [List.length_map, List.map_take, List.map_drop]
theorem cutL_mem {α : Type} {l : List α} {lo hi : Option Int} {x : α} (h : x ∈ cutL l lo hi) : x ∈ l := List.mem_of_mem_drop (List.mem_of_mem_take h)
theorem cutL_len {α : Type} (l : List α) (lo hi : Option Int) : (cutL l lo hi).length ≤ l.length := by
  unfold cutL
  rw [List.length_take, List.length_drop]
  exact Nat.le_trans (Nat.min_le_right _ _) (Nat.sub_le _ _)
/-- an item drawn out of a list -/
theorem pick_ix {α : Type} (g : α → D) (l : List α) {r : Int} (h0 : 0 ≤ r) (h1 : r < l.length) : ∃ x ∈ l, ixAt (l.map g) r = some (g x) := by
  have hi : r.toNat < l.length := by omega
  refine ⟨l[r.toNat], List.getElem_mem hi, ?_⟩
  unfold ixAt
  rw [if_pos h0, List.getElem?_map, List.getElem?_eq_getElem hi]
  rfl
theorem len_frz {α : Type} (g : α → D) (l : List α) (s : Sto) : bltE .len false [.frz (.lst (l.map g))] s = .ok (.int l.length) s := by
  show R.ok (D.int (l.map g).length) s = _
  rw [List.length_map]
theorem truth_frz {α : Type} (g : α → D) (l : List α) (s : Sto) : truth (.frz (.lst (l.map g))) s = some (!l.isEmpty) := by
  show some (!(l.map g).isEmpty) = _
  rw [List.isEmpty_map]
/-- a take whose bound is told by a row -/
theorem take_ev {G : Pg} (ht : G.fn "_law_take" = some fTake) (n : Nat) {m : ME} {i p : Nat} {env : Env} {many : Int} {A B : List Ob} {b : Nat} {e : Bool} (hv : env[i]? = some (some (.loc p))) (hm : evE ⟨run G (n + 1), G.fuel, none, G.sub⟩ m env ⟨A ++ B, b, e⟩ = .ok (.int many) ⟨A ++ B, b, e⟩) (hp : PotP p A) (h0 : 0 < many) (h1 : many ≤ 2000000000) :
    ∃ r A', evE ⟨run G (n + 1), G.fuel, none, G.sub⟩ (.call "_law_take" [.var i, m] [] [] [.pos 0, .pos 1]) env ⟨A ++ B, b, e⟩ = .ok (.int r) ⟨A' ++ B, b, e⟩ ∧ 0 ≤ r ∧ r < many ∧ PotP p A' := by
  obtain ⟨r, A', t, a, c, hp'⟩ := take_pot G ht n p many A B b e hp h0 (small_line (by omega))
  refine ⟨r, A', ?_, a, c, hp'⟩
  rw [call_ev (evs_cons (d := .loc p) (var_ev hv) (evs_cons hm evs_nil)) rfl]
  exact t
/-! ### k14 -/
def wsE : List (String × List Nat × List String) := [("NoEar", [78, 111, 69, 97, 114], ["speaker", "listener"]), ("AirError", [65, 105, 114, 69, 114, 114, 111, 114], [])]
def sNoEar : List Nat := [78, 111, 69, 97, 114]
def lw14t : List MS := [.ifs (.var 3) [.asg [.nm 6] (.idx (.var 3) (.call "_law_take" [.var 1, .blt .len false [.var 3]] [] [] [.pos 0, .pos 1])), .asg [.nm 7] (.idx (.var 3) (.call "_law_take" [.var 1, .blt .len false [.var 3]] [] [] [.pos 0, .pos 1])), sameT (.call "clash" [.var 4, .var 6, .var 7] [] [] [.pos 0, .pos 1, .pos 2]) (.call "_law_reason" [.var 3, .var 6, .var 7] [] [] [.pos 0, .pos 1, .pos 2]), sameT (.call "clash" [.var 4, .var 7, .var 6] [] [] [.pos 0, .pos 1, .pos 2]) (.call "_law_reason" [.var 3, .var 7, .var 6] [] [] [.pos 0, .pos 1, .pos 2])] []]
def lw14a : List MS := [
    .asg [.nm 1] (.call "_law_pot" [.var 0] [] [] [.pos 0]),
    .asg [.nm 2] (.call "_law_folk" [.var 1, .bin .add (.cst (.int 2)) (.call "_law_take" [.var 1, .idx (.lst false [.cst (.int 5), .cst (.int 5), .cst (.int 5), .cst (.int 14)]) (.call "_law_take" [.var 1, .cst (.int 4)] [] [] [.pos 0, .pos 1])] [] [] [.pos 0, .pos 1])] [] [] [.pos 0, .pos 1]),
    .asg [.nm 3] (.call "_law_ears" [.var 1, .var 2, .bin .add (.cst (.int 1)) (.call "_law_take" [.var 1, .cst (.int 5)] [] [] [.pos 0, .pos 1])] [] [] [.pos 0, .pos 1, .pos 2]),
    .asg [.nm 4] (.make "Field" [.var 2, .var 3] ["both"] [.cst (.bl false)] [.pos 0, .pos 1, .kw 0])]
def lw14c : ME := .lc false [6, 7] (.tp [.nm 6, .nm 7]) (.zip (.var 2) (.slc false (.var 2) (some (.cst (.int 1))) none)) [.cmp .notin (.tup [.var 6, .var 7]) (.var 3)] (.elt (.tup [.var 6, .var 7]))
def lw14s (x y : Nat) (d : ME) : MS := sameT (.why "_law_why" wsE (.call "clash" [.var 4, .var x, .var y] [] [] [.pos 0, .pos 1, .pos 2])) d
def due9 : ME := .tup [.cst (.str [78, 111, 69, 97, 114]), .idx (.var 9) (.cst (.int 0)), .idx (.var 9) (.cst (.int 1))]
def due8 : ME := .tup [.cst (.str [78, 111, 69, 97, 114]), .var 8, .var 8]
def lw14g : List MS := [lw14s 12 11 due8, lw14s 9 12 due9]
def fLaw14 : Fd := ⟨1, 13, lw14a ++ [.for (.nm 5) (.rng (.cst (.int 12))) lw14t,
    .asg [.nm 8] (.call "_law_stranger" [.var 1, .var 2] [] [] [.pos 0, .pos 1]),
    .asg [.nm 9] (.idx (.lst false [.tup [.var 8, .idx (.var 2) (.cst (.int 0))], .tup [.idx (.var 2) (.cst (.int 0)), .var 8], .tup [.idx (.var 2) (.cst (.int 1)), .idx (.var 2) (.cst (.int 1))], .tup [.var 8, .bin .add (.var 8) (.cst (.int 1))]]) (.call "_law_take" [.var 1, .cst (.int 4)] [] [] [.pos 0, .pos 1])),
    .for (.nm 10) (.it lw14c) [.asg [.nm 9] (.var 10)],
    .asg [.nm 11] (.tup [.var 8, .var 8]),
    lw14s 9 11 due9,
    .for (.nm 12) (.it (.slc false (.var 3) none (some (.cst (.int 2))))) lw14g,
    .ret (some (.cst (.bl true)))]⟩
/-- the field's functions -/
structure GF (G : Pg) : Prop where
  init : G.fn "Field.__init__" = some fInit
  ce : G.fn "Field.check_ear" = some fCheckEar
  ck : G.fn "Field.check" = some fCheck
/-- what laws draw from -/
structure GL (G : Pg) : Prop where
  pot : G.fn "_law_pot" = some fPot
  take : G.fn "_law_take" = some fTake
  same : G.fn "_law_same" = some fSame
  folk : G.fn "_law_folk" = some fFolk
  ears : G.fn "_law_ears" = some fEars
  fuel : 100000 ≤ G.fuel
/-- hops -/
structure GH (G : Pg) : Prop where
  hears : G.fn "Field.hears" = some fHears
  allears : G.fn "Field.all_ears" = some fAllEars
  reason : G.fn "reason" = some fReason
  lreason : G.fn "_law_reason" = some fLawReason
structure G14 (G : Pg) : Prop extends GF G, GL G, GH G where
  checkhop : G.fn "check_hop" = some fCheckHop
  clash : G.fn "clash" = some fClash
  stranger : G.fn "_law_stranger" = some fStranger
  law : G.fn "law" = some fLaw14
  why : G.sub "NoEar" "NoEar" = true
theorem whyE {G : Pg} (h : G.sub "NoEar" "NoEar" = true) (q : Int × Int) : whyH G.sub wsE (noEar q) = some (.tup [.str sNoEar, .int q.1, .int q.2]) := by
  unfold wsE whyH noEar
  simp only [h, if_true]
  rfl
def E14 (ns hs : List Int) (es : List (Int × Int)) (p m : Nat) (x5 x6 x7 x8 x9 x10 x11 x12 : Option D) : Env := [some (.klst (ns.map D.int)), some (.loc p), some (.frz (.lst (hs.map D.int))), some (.frz (.lst (es.map tp2))), some (.loc m), x5, x6, x7, x8, x9, x10, x11, x12]
theorem same_any {G : Pg} (h : G.fn "_law_same" = some fSame) (N k : Nat) (d : D) (hd : sdat k d = true) (hk : k + 1 ≤ N) (s : Sto) : run G N "_law_same" [d, d] s = .ok (.bl true) s := by
  have := same_refl G h k d hd (N - (k + 1)) s
  have e : N - (k + 1) + k + 1 = N := by omega
  rwa [e] at this
theorem law14_run {G : Pg} (g : G14 G) (n : Nat) (ns : List Int) (hl : ns.length ≤ 63) : ∃ s', run G (n + 8) "law" [.klst (ns.map D.int)] ⟨[], 0, false⟩ = .ok (.bl true) s' := by
  rw [run_eq G (n + 7) _ _ g.law _ _ rfl (by decide)]
  obtain ⟨p, A0, t0, p0⟩ := pot_pot G g.pot (n + 6) ns hl
  have ev0 : evS ⟨run G (n + 7), G.fuel, none, G.sub⟩ (.asg [.nm 1] (.call "_law_pot" [.var 0] [] [] [.pos 0])) [some (.klst (ns.map D.int)), none, none, none, none, none, none, none, none, none, none, none, none] ⟨[], 0, false⟩ = .ok .next [some (.klst (ns.map D.int)), some (.loc p), none, none, none, none, none, none, none, none, none, none, none] ⟨A0 ++ [], 0, false⟩ := by
    rw [List.append_nil]
    exact asg_ev ((call_ev (evs_cons rfl evs_nil) rfl).trans t0)
  -- the houses
  obtain ⟨r1, A1, t1, a1, b1, p1⟩ := take_ev g.take (n + 6) (m := .cst (.int 4)) (i := 1) (env := [some (.klst (ns.map D.int)), some (.loc p), none, none, none, none, none, none, none, none, none, none, none]) (B := []) (b := 0) (e := false) rfl rfl p0 (by decide) (by decide)
  obtain ⟨m2, x2, y2, z2⟩ := pick4 5 5 5 14 a1 b1 14 (by decide) (by decide) (by decide) (by decide)
  obtain ⟨r2, A2, t2, a2, b2, p2⟩ := take_pot G g.take (n + 6) p m2 A1 [] 0 false p1 y2 (small_line (by omega))
  obtain ⟨k, hk⟩ : ∃ k : Nat, 2 + r2 = (k : Int) := ⟨(2 + r2).toNat, by omega⟩
  obtain ⟨hs, A3, t3, p3, hf, hfl⟩ := folk_run G g.folk g.take (n + 5) p k A2 [] 0 false p2 (by omega) (by omega)
  have ev1 : evS ⟨run G (n + 7), G.fuel, none, G.sub⟩ (.asg [.nm 2] (.call "_law_folk" [.var 1, .bin .add (.cst (.int 2)) (.call "_law_take" [.var 1, .idx (.lst false [.cst (.int 5), .cst (.int 5), .cst (.int 5), .cst (.int 14)]) (.call "_law_take" [.var 1, .cst (.int 4)] [] [] [.pos 0, .pos 1])] [] [] [.pos 0, .pos 1])] [] [] [.pos 0, .pos 1])) [some (.klst (ns.map D.int)), some (.loc p), none, none, none, none, none, none, none, none, none, none, none] ⟨A0 ++ [], 0, false⟩ = .ok .next [some (.klst (ns.map D.int)), some (.loc p), some (.frz (.lst (hs.map D.int))), none, none, none, none, none, none, none, none, none, none] ⟨A3 ++ [], 0, false⟩ := by
    have i4 : evE ⟨run G (n + 7), G.fuel, none, G.sub⟩ (.idx (.lst false [.cst (.int 5), .cst (.int 5), .cst (.int 5), .cst (.int 14)]) (.call "_law_take" [.var 1, .cst (.int 4)] [] [] [.pos 0, .pos 1])) [some (.klst (ns.map D.int)), some (.loc p), none, none, none, none, none, none, none, none, none, none, none] ⟨A0 ++ [], 0, false⟩ = .ok (.int m2) ⟨A1 ++ [], 0, false⟩ := idx_ev (x := .frz (.lst [.int 5, .int 5, .int 5, .int 14])) (lst_ev rfl (by show 4 ≤ 16777216; decide)) t1 x2
    have t2' := (call_ev (C := ⟨run G (n + 7), G.fuel, none, G.sub⟩) (f := "_law_take") (pl := [.pos 0, .pos 1]) (evs_cons (e := .var 1) (d := .loc p) rfl (evs_cons i4 evs_nil)) rfl).trans t2
    have t3' := bin_ev (op := .add) (a := .cst (.int 2)) (x := .int 2) rfl t2' (z := .int k) (by rw [add_D, hk])
    exact asg_ev ((call_ev (evs_cons (e := .var 1) (d := .loc p) rfl (evs_cons t3' evs_nil)) rfl).trans t3)
  -- the ears
  obtain ⟨r4, A4, t4, a4, b4, p4⟩ := take_ev g.take (n + 6) (m := .cst (.int 5)) (i := 1) (env := [some (.klst (ns.map D.int)), some (.loc p), some (.frz (.lst (hs.map D.int))), none, none, none, none, none, none, none, none, none, none]) (B := []) (b := 0) (e := false) rfl rfl p3 (by decide) (by decide)
  obtain ⟨es, A5, t5, p5, he, hel⟩ := ears_run G g.ears g.take (n + 5) p hs (1 + r4) A4 [] 0 false p4 (by omega) hf.1
  have ev2 : evS ⟨run G (n + 7), G.fuel, none, G.sub⟩ (.asg [.nm 3] (.call "_law_ears" [.var 1, .var 2, .bin .add (.cst (.int 1)) (.call "_law_take" [.var 1, .cst (.int 5)] [] [] [.pos 0, .pos 1])] [] [] [.pos 0, .pos 1, .pos 2])) [some (.klst (ns.map D.int)), some (.loc p), some (.frz (.lst (hs.map D.int))), none, none, none, none, none, none, none, none, none, none] ⟨A3 ++ [], 0, false⟩ = .ok .next [some (.klst (ns.map D.int)), some (.loc p), some (.frz (.lst (hs.map D.int))), some (.frz (.lst (es.map tp2))), none, none, none, none, none, none, none, none, none] ⟨A5, 0, false⟩ := by
    have t4' := bin_ev (op := .add) (a := .cst (.int 1)) (x := .int 1) rfl t4 (add_D 1 r4 _)
    rw [List.append_nil A5] at t5
    exact asg_ev ((call_ev (evs_cons (e := .var 1) (d := .loc p) rfl (evs_cons (e := .var 2) (d := .frz (.lst (hs.map D.int))) rfl (evs_cons t4' evs_nil))) rfl).trans t5)
  have ev3 : evS ⟨run G (n + 7), G.fuel, none, G.sub⟩ (.asg [.nm 4] (.make "Field" [.var 2, .var 3] ["both"] [.cst (.bl false)] [.pos 0, .pos 1, .kw 0])) [some (.klst (ns.map D.int)), some (.loc p), some (.frz (.lst (hs.map D.int))), some (.frz (.lst (es.map tp2))), none, none, none, none, none, none, none, none, none] ⟨A5, 0, false⟩ = .ok .next (E14 ns hs es p A5.length none none none none none none none none) ⟨A5 ++ FldB A5.length hs es, 0, true⟩ := asg_ev (make_ev g.init g.ce g.ck (n + 4) rfl rfl hf (by omega) he (by omega))
  have hlen2 : 2 ≤ hs.length := by omega
  generalize hm : A5.length = m
  rw [hm] at ev3
  have lel : es.length ≤ lenLine := Nat.le_trans hel (by decide)
  have FA : ∀ A, PotP p A → FieldAt (A ++ FldB m hs es) m (m + 1) (m + 2) hs es := fun A hA => fldB_end (by rw [hA.1, ← hm, p5.1])
  have sm : ∀ (d : D) (k : Nat), k ≤ 6 → sdat k d = true → ∀ s, run G (n + 7) "_law_same" [d, d] s = .ok (.bl true) s := fun d k hk hd s => same_any g.same (n + 7) k d hd (by omega) s
  have cl : ∀ (q r : Int × Int) (A : List Ob), PotP p A → run G (n + 7) "clash" [.loc m, tp2 q, tp2 r] ⟨A ++ FldB m hs es, 0, true⟩ = if q ∈ es then if r ∈ es then .ok (reasonD es q r) ⟨A ++ FldB m hs es, 0, true⟩ else .ex (noEar r) ⟨A ++ FldB m hs es, 0, true⟩ else .ex (noEar q) ⟨A ++ FldB m hs es, 0, true⟩ := fun q r A hA =>
    clash_run G g.clash g.checkhop g.allears g.reason g.hears g.ck (n + 3) m (m + 1) (m + 2) hs es q r _ (FA A hA) lel he
  -- twelve turns
  have turns : ∃ env' s', forL (fun d env s => match bindT 3 (.nm 5) d s env with
        | some env => evSs ⟨run G (n + 7), G.fuel, none, G.sub⟩ lw14t env s
        | none => .no) ((List.range 12).map fun (k : Nat) => .int (k : Int)) (E14 ns hs es p m none none none none none none none none) ⟨A5 ++ FldB m hs es, 0, true⟩ = .ok .next env' s' ∧ ∃ x5 x6 x7 A, env' = E14 ns hs es p m x5 x6 x7 none none none none none ∧ s' = ⟨A ++ FldB m hs es, 0, true⟩ ∧ PotP p A := by
    refine forL_invS _ (fun (k : Nat) => D.int (k : Int)) (fun env' s' => ∃ x5 x6 x7 A, env' = E14 ns hs es p m x5 x6 x7 none none none none none ∧ s' = ⟨A ++ FldB m hs es, 0, true⟩ ∧ PotP p A) _ _ _ (fun k _ env s hi => ?_) ⟨none, none, none, A5, rfl, rfl, p5⟩
    obtain ⟨x5, x6, x7, A, rfl, rfl, hA⟩ := hi
    show ∃ env' s', evSs _ lw14t (E14 ns hs es p m (some (.int k)) x6 x7 none none none none none) _ = _ ∧ _
    cases hes : es with
    | nil =>
      refine ⟨_, _, ?_, some (.int k), x6, x7, A, rfl, rfl, hA⟩
      unfold lw14t
      rw [seq_go (env' := E14 ns hs [] p m (some (.int k)) x6 x7 none none none none none) (s' := ⟨A ++ FldB m hs [], 0, true⟩) (ifs_f (d := .frz (.lst [])) rfl rfl rfl)]
      rfl
    | cons q0 es0 =>
      rw [← hes]
      have epos : 0 < es.length := by rw [hes]; simp
      have lenE : ∀ (x6 x7 : Option D) s, evE ⟨run G (n + 7), G.fuel, none, G.sub⟩ (.blt .len false [.var 3]) (E14 ns hs es p m (some (.int k)) x6 x7 none none none none none) s = .ok (.int es.length) s := fun x6 x7 s => len_frz tp2 es s
      obtain ⟨r6, A6, t6, a6, b6, p6⟩ := take_ev g.take (n + 6) (m := .blt .len false [.var 3]) (i := 1) (env := E14 ns hs es p m (some (.int k)) x6 x7 none none none none none) (B := FldB m hs es) (b := 0) (e := true) rfl (lenE _ _ _) hA (by omega) (by omega)
      obtain ⟨q, hq, ix6⟩ := pick_ix tp2 es a6 b6
      obtain ⟨r7, A7, t7, a7, b7, p7⟩ := take_ev g.take (n + 6) (m := .blt .len false [.var 3]) (i := 1) (env := E14 ns hs es p m (some (.int k)) (some (tp2 q)) x7 none none none none none) (B := FldB m hs es) (b := 0) (e := true) rfl (lenE _ _ _) p6 (by omega) (by omega)
      obtain ⟨r, hr, ix7⟩ := pick_ix tp2 es a7 b7
      refine ⟨_, _, ?_, some (.int k), some (tp2 q), some (tp2 r), A7, rfl, rfl, p7⟩
      unfold lw14t
      have go : evSs ⟨run G (n + 7), G.fuel, none, G.sub⟩ [.asg [.nm 6] (.idx (.var 3) (.call "_law_take" [.var 1, .blt .len false [.var 3]] [] [] [.pos 0, .pos 1])), .asg [.nm 7] (.idx (.var 3) (.call "_law_take" [.var 1, .blt .len false [.var 3]] [] [] [.pos 0, .pos 1])), sameT (.call "clash" [.var 4, .var 6, .var 7] [] [] [.pos 0, .pos 1, .pos 2]) (.call "_law_reason" [.var 3, .var 6, .var 7] [] [] [.pos 0, .pos 1, .pos 2]), sameT (.call "clash" [.var 4, .var 7, .var 6] [] [] [.pos 0, .pos 1, .pos 2]) (.call "_law_reason" [.var 3, .var 7, .var 6] [] [] [.pos 0, .pos 1, .pos 2])] (E14 ns hs es p m (some (.int k)) x6 x7 none none none none none) ⟨A ++ FldB m hs es, 0, true⟩ = .ok .next (E14 ns hs es p m (some (.int k)) (some (tp2 q)) (some (tp2 r)) none none none none none) ⟨A7 ++ FldB m hs es, 0, true⟩ := by
        rw [seq_go (env' := E14 ns hs es p m (some (.int k)) (some (tp2 q)) x7 none none none none none) (asg_ev (idx_ev (x := .frz (.lst (es.map tp2))) rfl t6 ix6))]
        rw [seq_go (env' := E14 ns hs es p m (some (.int k)) (some (tp2 q)) (some (tp2 r)) none none none none none) (asg_ev (idx_ev (x := .frz (.lst (es.map tp2))) rfl t7 ix7))]
        have c1 := cl q r A7 p7
        rw [if_pos hq, if_pos hr] at c1
        have c2 := cl r q A7 p7
        rw [if_pos hr, if_pos hq] at c2
        rw [seq_go (same_st ((call_ev (evs_cons (e := .var 4) (d := .loc m) rfl (evs_cons (e := .var 6) (d := tp2 q) rfl (evs_cons (e := .var 7) (d := tp2 r) rfl evs_nil))) rfl).trans c1) ((call_ev (evs_cons (e := .var 3) (d := .frz (.lst (es.map tp2))) rfl (evs_cons (e := .var 6) (d := tp2 q) rfl (evs_cons (e := .var 7) (d := tp2 r) rfl evs_nil))) rfl).trans (lawreason_run G g.lreason (n + 6) es q r _)) (sm _ 1 (by decide) (reasonD_sdat es q r) _))]
        rw [seq_go (same_st ((call_ev (evs_cons (e := .var 4) (d := .loc m) rfl (evs_cons (e := .var 7) (d := tp2 r) rfl (evs_cons (e := .var 6) (d := tp2 q) rfl evs_nil))) rfl).trans c2) ((call_ev (evs_cons (e := .var 3) (d := .frz (.lst (es.map tp2))) rfl (evs_cons (e := .var 7) (d := tp2 r) rfl (evs_cons (e := .var 6) (d := tp2 q) rfl evs_nil))) rfl).trans (lawreason_run G g.lreason (n + 6) es r q _)) (sm _ 1 (by decide) (reasonD_sdat es r q) _))]
        rfl
      rw [seq_go (ifs_t (d := .frz (.lst (es.map tp2))) rfl (by rw [truth_frz, hes]; rfl) go)]
      rfl
  obtain ⟨_, _, turns, x5, x6, x7, A8, rfl, rfl, p8⟩ := turns
  -- the stranger, the bad pair
  obtain ⟨lo, A9, t9, p9, n9, m9⟩ := stranger_run G g.stranger g.take (n + 5) p hs A8 (FldB m hs es) 0 true p8 (by have := g.fuel; omega)
  have ev4 : evS ⟨run G (n + 7), G.fuel, none, G.sub⟩ (.asg [.nm 8] (.call "_law_stranger" [.var 1, .var 2] [] [] [.pos 0, .pos 1])) (E14 ns hs es p m x5 x6 x7 none none none none none) ⟨A8 ++ FldB m hs es, 0, true⟩ = .ok .next (E14 ns hs es p m x5 x6 x7 (some (.int lo)) none none none none) ⟨A9 ++ FldB m hs es, 0, true⟩ :=
    asg_ev ((call_ev (evs_cons (e := .var 1) (d := .loc p) rfl (evs_cons (e := .var 2) (d := .frz (.lst (hs.map D.int))) rfl evs_nil)) rfl).trans t9)
  obtain ⟨f0, hf0, jx0⟩ := pick_ix D.int hs (r := 0) (by decide) (by omega)
  obtain ⟨f1, hf1, jx1⟩ := pick_ix D.int hs (r := 1) (by decide) (by omega)
  obtain ⟨r10, A10, t10, a10, b10, p10⟩ := take_ev g.take (n + 6) (m := .cst (.int 4)) (i := 1) (env := E14 ns hs es p m x5 x6 x7 (some (.int lo)) none none none none) (B := FldB m hs es) (b := 0) (e := true) rfl rfl p9 (by decide) (by decide)
  obtain ⟨bad, hbad, jxb⟩ := pick_ix tp2 [(lo, f0), (f0, lo), (f1, f1), (lo, lo + 1)] a10 b10
  have nlo : ∀ q ∈ es, q.1 ≠ lo ∧ q.2 ≠ lo ∧ q.1 ≠ q.2 := fun q hq => ⟨fun e => n9 (e ▸ (he.2 q hq).1), fun e => n9 (e ▸ (he.2 q hq).2.1), (he.2 q hq).2.2⟩
  have nbad : bad ∉ es := fun hb => by
    simp only [List.mem_cons, List.not_mem_nil, or_false] at hbad
    rcases hbad with rfl | rfl | rfl | rfl
    · exact (nlo _ hb).1 rfl
    · exact (nlo _ hb).2.1 rfl
    · exact (nlo _ hb).2.2 rfl
    · exact (nlo _ hb).1 rfl
  have ev5 : evS ⟨run G (n + 7), G.fuel, none, G.sub⟩ (.asg [.nm 9] (.idx (.lst false [.tup [.var 8, .idx (.var 2) (.cst (.int 0))], .tup [.idx (.var 2) (.cst (.int 0)), .var 8], .tup [.idx (.var 2) (.cst (.int 1)), .idx (.var 2) (.cst (.int 1))], .tup [.var 8, .bin .add (.var 8) (.cst (.int 1))]]) (.call "_law_take" [.var 1, .cst (.int 4)] [] [] [.pos 0, .pos 1]))) (E14 ns hs es p m x5 x6 x7 (some (.int lo)) none none none none) ⟨A9 ++ FldB m hs es, 0, true⟩ = .ok .next (E14 ns hs es p m x5 x6 x7 (some (.int lo)) (some (tp2 bad)) none none none) ⟨A10 ++ FldB m hs es, 0, true⟩ := by
    have k0 : ∀ s, evE ⟨run G (n + 7), G.fuel, none, G.sub⟩ (.idx (.var 2) (.cst (.int 0))) (E14 ns hs es p m x5 x6 x7 (some (.int lo)) none none none none) s = .ok (.int f0) s := fun s => idx_ev (x := .frz (.lst (hs.map D.int))) rfl rfl jx0
    have k1 : ∀ s, evE ⟨run G (n + 7), G.fuel, none, G.sub⟩ (.idx (.var 2) (.cst (.int 1))) (E14 ns hs es p m x5 x6 x7 (some (.int lo)) none none none none) s = .ok (.int f1) s := fun s => idx_ev (x := .frz (.lst (hs.map D.int))) rfl rfl jx1
    have k8 : ∀ s, evE ⟨run G (n + 7), G.fuel, none, G.sub⟩ (.var 8) (E14 ns hs es p m x5 x6 x7 (some (.int lo)) none none none none) s = .ok (.int lo) s := fun s => rfl
    have kl : ∀ s, evE ⟨run G (n + 7), G.fuel, none, G.sub⟩ (.lst false [.tup [.var 8, .idx (.var 2) (.cst (.int 0))], .tup [.idx (.var 2) (.cst (.int 0)), .var 8], .tup [.idx (.var 2) (.cst (.int 1)), .idx (.var 2) (.cst (.int 1))], .tup [.var 8, .bin .add (.var 8) (.cst (.int 1))]]) (E14 ns hs es p m x5 x6 x7 (some (.int lo)) none none none none) s = .ok (.frz (.lst ([(lo, f0), (f0, lo), (f1, f1), (lo, lo + 1)].map tp2))) s := fun s => by
      have mk : ∀ (a b c d : D) s, mkLst false [a, b, c, d] s = .ok (.frz (.lst [a, b, c, d])) s := fun a b c d s => if_pos (by show 4 ≤ 16777216; decide)
      have k9 : ∀ s, evE ⟨run G (n + 7), G.fuel, none, G.sub⟩ (.bin .add (.var 8) (.cst (.int 1))) (E14 ns hs es p m x5 x6 x7 (some (.int lo)) none none none none) s = .ok (.int (lo + 1)) s := fun s => rfl
      show (evEs _ _ _ _).bind (fun ds s => mkLst false ds s) = _
      have tu : ∀ (a b : ME) (x y : D) env s, evE ⟨run G (n + 7), G.fuel, none, G.sub⟩ a env s = .ok x s → evE ⟨run G (n + 7), G.fuel, none, G.sub⟩ b env s = .ok y s → evE ⟨run G (n + 7), G.fuel, none, G.sub⟩ (.tup [a, b]) env s = .ok (.tup [x, y]) s := fun a b x y env s h1 h2 => by
        simp only [evE, evEs, h1, h2, R.bind_ok]
      rw [evs_cons (tu _ _ _ _ _ _ (k8 s) (k0 s)) (evs_cons (tu _ _ _ _ _ _ (k0 s) (k8 s)) (evs_cons (tu _ _ _ _ _ _ (k1 s) (k1 s)) (evs_cons (tu _ _ _ _ _ _ (k8 s) (k9 s)) evs_nil)))]
      exact mk _ _ _ _ _
    exact asg_ev (idx_ev (kl _) t10 jxb)
  -- pairs of neighbours that are no ears
  obtain ⟨env6, l6, bad2, y10, nbad2, rfl⟩ : ∃ env', forL (fun d env s => match bindT 3 (.nm 10) d s env with
        | some env => evSs ⟨run G (n + 7), G.fuel, none, G.sub⟩ [.asg [.nm 9] (.var 10)] env s
        | none => .no) (((hs.zip (cutL hs (some 1) none)).filter fun q => !decide (q ∈ es)).map tp2) (E14 ns hs es p m x5 x6 x7 (some (.int lo)) (some (tp2 bad)) none none none) ⟨A10 ++ FldB m hs es, 0, true⟩ = .ok .next env' ⟨A10 ++ FldB m hs es, 0, true⟩ ∧ ∃ q y10, q ∉ es ∧ env' = E14 ns hs es p m x5 x6 x7 (some (.int lo)) (some (tp2 q)) y10 none none := by
    refine forL_inv _ tp2 (fun env' => ∃ q y10, q ∉ es ∧ env' = E14 ns hs es p m x5 x6 x7 (some (.int lo)) (some (tp2 q)) y10 none none) _ _ _ (fun q hq env hi => ?_) ⟨bad, none, nbad, rfl⟩
    obtain ⟨_, y10, _, rfl⟩ := hi
    have nq : q ∉ es := by
      have := (List.mem_filter.mp hq).2
      simpa using this
    exact ⟨E14 ns hs es p m x5 x6 x7 (some (.int lo)) (some (tp2 q)) (some (tp2 q)) none none, rfl, q, _, nq, rfl⟩
  have ev6 : evS ⟨run G (n + 7), G.fuel, none, G.sub⟩ (.for (.nm 10) (.it lw14c) [.asg [.nm 9] (.var 10)]) (E14 ns hs es p m x5 x6 x7 (some (.int lo)) (some (tp2 bad)) none none none) ⟨A10 ++ FldB m hs es, 0, true⟩ = .ok .next (E14 ns hs es p m x5 x6 x7 (some (.int lo)) (some (tp2 bad2)) y10 none none) ⟨A10 ++ FldB m hs es, 0, true⟩ := by
    refine for_it ?_ l6
    unfold lw14c
    have hI : evI ⟨run G (n + 7), G.fuel, none, G.sub⟩ (.zip (.var 2) (.slc false (.var 2) (some (.cst (.int 1))) none)) (E14 ns hs es p m x5 x6 x7 (some (.int lo)) (some (tp2 bad)) none none none) ⟨A10 ++ FldB m hs es, 0, true⟩ = .ok ((hs.zip (cutL hs (some 1) none)).map tp2, []) ⟨A10 ++ FldB m hs es, 0, true⟩ := by
      rw [zip_ev (ds := hs.map D.int) (es := (cutL hs (some 1) none).map D.int) rfl (by rw [← cutL_map]; rfl), List.zip_map, List.map_map]
      rfl
    refine (lc_gen (hs.zip (cutL hs (some 1) none)) tp2 (fun q => !decide (q ∈ es)) tp2 hI rfl (fun q _ => ?_) ?_ rfl).trans rfl
    · have e1 : ∀ s', bindT 3 (.tp [.nm 6, .nm 7]) (tp2 q) s' (wipe (E14 ns hs es p m x5 x6 x7 (some (.int lo)) (some (tp2 bad)) none none none) [6, 7]) = some (E14 ns hs es p m x5 (some (.int q.1)) (some (.int q.2)) (some (.int lo)) (some (tp2 bad)) none none none) := fun _ => rfl
      simp only [e1]
      have e2 : ∀ s, evE ⟨run G (n + 7), G.fuel, none, G.sub⟩ (.cmp .notin (.tup [.var 6, .var 7]) (.var 3)) (E14 ns hs es p m x5 (some (.int q.1)) (some (.int q.2)) (some (.int lo)) (some (tp2 bad)) none none none) s = .ok (.bl (!decide (q ∈ es))) s := fun s => cmp_ev (x := .tup [.int q.1, .int q.2]) (y := .frz (.lst (es.map tp2))) rfl rfl (notin_tps q.1 q.2 es s)
      simp only [evTs, e2, R.bind_ok, truth_bl]
      cases decide (q ∈ es) <;> rfl
    · rw [List.length_zip]
      exact Nat.le_trans (Nat.min_le_left _ _) (Nat.le_trans (show hs.length ≤ 100 by omega) (by decide))
  -- what clash says of them
  have si : ∀ (i j : Nat) (q r : Int × Int) (due : ME) (env : Env) (x : Int × Int), env[4]? = some (some (.loc m)) → env[i]? = some (some (tp2 q)) → env[j]? = some (some (tp2 r)) → (q ∉ es ∧ x = q ∨ q ∈ es ∧ r ∉ es ∧ x = r) → (∀ s, evE ⟨run G (n + 7), G.fuel, none, G.sub⟩ due env s = .ok (.tup [.str sNoEar, .int x.1, .int x.2]) s) →
      evS ⟨run G (n + 7), G.fuel, none, G.sub⟩ (lw14s i j due) env ⟨A10 ++ FldB m hs es, 0, true⟩ = .ok .next env ⟨A10 ++ FldB m hs es, 0, true⟩ := fun i j q r due env x h4 hi hj hx hd => by
    have c1 := cl q r A10 p10
    have c2 : run G (n + 7) "clash" [.loc m, tp2 q, tp2 r] ⟨A10 ++ FldB m hs es, 0, true⟩ = .ex (noEar x) ⟨A10 ++ FldB m hs es, 0, true⟩ := by
      rcases hx with ⟨h1, rfl⟩ | ⟨h1, h2, rfl⟩
      · rw [if_neg h1] at c1; exact c1
      · rw [if_pos h1, if_neg h2] at c1; exact c1
    exact same_st (why_ev ((call_ev (evs_cons (e := .var 4) (d := .loc m) (var_ev h4) (evs_cons (d := tp2 q) (var_ev hi) (evs_cons (d := tp2 r) (var_ev hj) evs_nil))) rfl).trans c2) (whyE g.why x)) (hd _) (sm _ 1 (by decide) rfl _)
  have d9 : ∀ x12 s, evE ⟨run G (n + 7), G.fuel, none, G.sub⟩ due9 (E14 ns hs es p m x5 x6 x7 (some (.int lo)) (some (tp2 bad2)) y10 (some (tp2 (lo, lo))) x12) s = .ok (.tup [.str sNoEar, .int bad2.1, .int bad2.2]) s := fun x12 s => rfl
  have d8 : ∀ x12 s, evE ⟨run G (n + 7), G.fuel, none, G.sub⟩ due8 (E14 ns hs es p m x5 x6 x7 (some (.int lo)) (some (tp2 bad2)) y10 (some (tp2 (lo, lo))) x12) s = .ok (.tup [.str sNoEar, .int lo, .int lo]) s := fun x12 s => rfl
  have nll : (lo, lo) ∉ es := fun h => (nlo _ h).1 rfl
  obtain ⟨env7, l7, x12, rfl⟩ : ∃ env', forL (fun d env s => match bindT 3 (.nm 12) d s env with
        | some env => evSs ⟨run G (n + 7), G.fuel, none, G.sub⟩ lw14g env s
        | none => .no) ((cutL es none (some 2)).map tp2) (E14 ns hs es p m x5 x6 x7 (some (.int lo)) (some (tp2 bad2)) y10 (some (tp2 (lo, lo))) none) ⟨A10 ++ FldB m hs es, 0, true⟩ = .ok .next env' ⟨A10 ++ FldB m hs es, 0, true⟩ ∧ ∃ x12, env' = E14 ns hs es p m x5 x6 x7 (some (.int lo)) (some (tp2 bad2)) y10 (some (tp2 (lo, lo))) x12 := by
    refine forL_inv _ tp2 (fun env' => ∃ x12, env' = E14 ns hs es p m x5 x6 x7 (some (.int lo)) (some (tp2 bad2)) y10 (some (tp2 (lo, lo))) x12) _ _ _ (fun q hq env hi => ?_) ⟨none, rfl⟩
    obtain ⟨x12, rfl⟩ := hi
    have hq := cutL_mem hq
    refine ⟨E14 ns hs es p m x5 x6 x7 (some (.int lo)) (some (tp2 bad2)) y10 (some (tp2 (lo, lo))) (some (tp2 q)), ?_, _, rfl⟩
    show evSs _ lw14g (E14 ns hs es p m x5 x6 x7 (some (.int lo)) (some (tp2 bad2)) y10 (some (tp2 (lo, lo))) (some (tp2 q))) _ = _
    unfold lw14g
    rw [seq_go (si 12 11 q (lo, lo) due8 _ (lo, lo) rfl rfl rfl (.inr ⟨hq, nll, rfl⟩) (d8 _))]
    rw [seq_go (si 9 12 bad2 q due9 _ bad2 rfl rfl rfl (.inl ⟨nbad2, rfl⟩) (d9 _))]
    rfl
  have ev7 : evS ⟨run G (n + 7), G.fuel, none, G.sub⟩ (.for (.nm 12) (.it (.slc false (.var 3) none (some (.cst (.int 2))))) lw14g) (E14 ns hs es p m x5 x6 x7 (some (.int lo)) (some (tp2 bad2)) y10 (some (tp2 (lo, lo))) none) ⟨A10 ++ FldB m hs es, 0, true⟩ = .ok .next (E14 ns hs es p m x5 x6 x7 (some (.int lo)) (some (tp2 bad2)) y10 (some (tp2 (lo, lo))) x12) ⟨A10 ++ FldB m hs es, 0, true⟩ := by
    refine for_it (s1 := ⟨A10 ++ FldB m hs es, 0, true⟩) ?_ l7
    rw [← cutL_map]
    rfl
  have go : evSs ⟨run G (n + 7), G.fuel, none, G.sub⟩ fLaw14.body ([D.klst (ns.map D.int)].map some ++ List.replicate (fLaw14.ns - fLaw14.np) none) ⟨[], 0, false⟩ = .ok (.ret (.bl true)) (E14 ns hs es p m x5 x6 x7 (some (.int lo)) (some (tp2 bad2)) y10 (some (tp2 (lo, lo))) x12) ⟨A10 ++ FldB m hs es, 0, true⟩ := by
    show evSs _ (_ :: _ :: _ :: _ :: _ :: _ :: _ :: _ :: _ :: _ :: _ :: [_]) [some (.klst (ns.map D.int)), none, none, none, none, none, none, none, none, none, none, none, none] _ = _
    rw [seq_go ev0, seq_go ev1, seq_go ev2, seq_go ev3]
    rw [seq_go (for_rng (i := 12) rfl (by decide) turns)]
    rw [seq_go ev4, seq_go ev5, seq_go ev6]
    rw [seq_go (env' := E14 ns hs es p m x5 x6 x7 (some (.int lo)) (some (tp2 bad2)) y10 (some (tp2 (lo, lo))) none) (asg_ev (d := tp2 (lo, lo)) rfl)]
    rw [seq_go (si 9 11 bad2 (lo, lo) due9 _ bad2 rfl rfl rfl (.inl ⟨nbad2, rfl⟩) (d9 _))]
    rw [seq_go ev7]
    rfl
  exact ⟨_, by
    show finR ⟨[], 0, false⟩ (evSs _ fLaw14.body _ ⟨[], 0, false⟩) = _
    rw [go]
    rfl⟩
end Fn

set_option linter.all false
set_option maxRecDepth 100000
set_option maxHeartbeats 2000000
namespace Fn
/-! P22: the first clash. -/
/-- a loop that may answer -/
theorem forL_some {α : Type} (F : D → Env → Sto → RS) (g : α → D) (f : α → Option D) (I : Env → Prop) (s : Sto) : ∀ (xs : List α) (env : Env), (∀ x ∈ xs, ∀ env, I env → ∃ env', F (g x) env s = (match f x with | none => .ok .next env' s | some d => .ok (.ret d) env' s) ∧ I env') → I env →
    ∃ env', forL F (xs.map g) env s = (match xs.findSome? f with | none => .ok .next env' s | some d => .ok (.ret d) env' s) ∧ I env'
  | [], env, _, h => ⟨env, rfl, h⟩
  | x :: xs, env, hF, h => by
    obtain ⟨e1, q1, i1⟩ := hF x List.mem_cons_self env h
    have un : forL F ((x :: xs).map g) env s = (match F (g x) env s with | .ok .next env s => forL F (xs.map g) env s | r => r) := rfl
    cases hx : f x with
    | some d =>
      rw [hx] at q1
      refine ⟨e1, ?_, i1⟩
      rw [un, q1, List.findSome?_cons, hx]
    | none =>
      rw [hx] at q1
      obtain ⟨e2, q2, i2⟩ := forL_some F g f I s xs e1 (fun y hy => hF y (List.mem_cons_of_mem _ hy)) i1
      refine ⟨e2, ?_, i2⟩
      rw [un, q1, List.findSome?_cons, hx]
      exact q2
/-- a loop that may refuse -/
theorem forL_ex {α : Type} (F : D → Env → Sto → RS) (g : α → D) (f : α → Option Xn) (I : Env → Prop) (s : Sto) : ∀ (xs : List α) (env : Env), (∀ x ∈ xs, ∀ env, I env → ∃ env', F (g x) env s = (match f x with | none => .ok .next env' s | some d => .ex d env' s) ∧ I env') → I env →
    ∃ env', forL F (xs.map g) env s = (match xs.findSome? f with | none => .ok .next env' s | some d => .ex d env' s) ∧ I env'
  | [], env, _, h => ⟨env, rfl, h⟩
  | x :: xs, env, hF, h => by
    obtain ⟨e1, q1, i1⟩ := hF x List.mem_cons_self env h
    have un : forL F ((x :: xs).map g) env s = (match F (g x) env s with | .ok .next env s => forL F (xs.map g) env s | r => r) := rfl
    cases hx : f x with
    | some d =>
      rw [hx] at q1
      refine ⟨e1, ?_, i1⟩
      rw [un, q1, List.findSome?_cons, hx]
    | none =>
      rw [hx] at q1
      obtain ⟨e2, q2, i2⟩ := forL_ex F g f I s xs e1 (fun y hy => hF y (List.mem_cons_of_mem _ hy)) i1
      refine ⟨e2, ?_, i2⟩
      rw [un, q1, List.findSome?_cons, hx]
      exact q2
/-- a loop over enumerate of what never changes -/
theorem for_enum {C : Ctx} {t : Tgt} {e : ME} {bd : List MS} {ds : List D} {env : Env} {s s1 : Sto} {r : RS} (h : evE C e env s = .ok (.frz (.lst ds)) s1)
    (q : forL (fun d env s => match bindT 3 t d s env with
        | some env => evSs C bd env s
        | none => .no) (ds.zipIdx.map fun p => D.tup [.int (p.2 : Int), p.1]) env s1 = r) : evS C (.for t (.enum e) bd) env s = r := by
  have e1 : evI C (.enum e) env s = .ok (ds.zipIdx.map (fun p => D.tup [.int (p.2 : Int), p.1]), []) s1 := by
    simp only [evI, h, R.bind_ok]
    rfl
  simp only [evS, e1, R.then_ok, lockAll]
  erw [q]
  exact unlock_nil r
def checkB : List MS := [.ifs (.cmp .notin (.tup [.var 3, .var 4]) (.var 2)) [.raise "NoEar" ["speaker", "listener"] [.var 3, .var 4]] []]
def fCheckHops : Fd := ⟨2, 5, [
    .asg [.nm 2] (.meth "Field" "all_ears" (.var 0) [] [] [] []),
    .for (.tp [.nm 3, .nm 4]) (.itl (.var 1)) checkB]⟩
/-- the first hop that is no ear -/
def strangeX (es : List (Int × Int)) (q : Int × Int) : Option Xn := if decide (q ∈ es) = true then none else some (noEar q)
def hopsX (es hops : List (Int × Int)) : Option Xn := hops.findSome? (strangeX es)
theorem hopsX_lf {es : List (Int × Int)} {x : Xn} : ∀ {hops : List (Int × Int)}, hopsX es hops = some x → D.lfF x.fs = true
  | [], h => by cases h
  | q :: t, h => by
    unfold hopsX at h
    rw [List.findSome?_cons] at h
    unfold strangeX at h
    split at h
    · rename_i hq
      cases h
      split at hq
      · cases hq
      · cases hq
        rfl
    · exact hopsX_lf (hops := t) h
theorem checkhops_run (G : Pg) (h : G.fn "check_hops" = some fCheckHops) (ha : G.fn "Field.all_ears" = some fAllEars) (n : Nat) (l a c : Nat) (hs : List Int) (es hops : List (Int × Int)) (s : Sto) (F : FieldAt s.ob l a c hs es) (hl : es.length ≤ lenLine) :
    run G (n + 2) "check_hops" [.loc l, .frz (.lst (hops.map tp2))] s = orX (hopsX es hops) .non s := by
  rw [run_eq G (n + 1) _ _ h _ _ rfl (by decide)]
  have F' : FieldAt (⟨s.ob, s.ob.length, false⟩ : Sto).ob l a c hs es := F
  have rp : ([D.loc l, D.frz (.lst (hops.map tp2))].map some ++ List.replicate (fCheckHops.ns - fCheckHops.np) (none : Option D)) = [some (.loc l), some (.frz (.lst (hops.map tp2))), none, none, none] := rfl
  rw [rp]
  have z := meth_ev (C := ⟨run G (n + 1), G.fuel, none, G.sub⟩) (c := "Field") (m := "all_ears") (o := .var 0) (es := []) (pl := []) (env := [some (.loc l), some (.frz (.lst (hops.map tp2))), none, none, none]) (s := ⟨s.ob, s.ob.length, false⟩) (x := .loc l) (vs := []) (ds := []) rfl F'.insOf rfl rfl rfl
  rw [sAllEars] at z
  have z3 := z.trans (allears_run G ha n l a c hs es ⟨s.ob, s.ob.length, false⟩ F hl)
  obtain ⟨env', q, x3, x4, hi⟩ := forL_ex (fun d env s => match bindT 3 (.tp [.nm 3, .nm 4]) d s env with
        | some env => evSs ⟨run G (n + 1), G.fuel, none, G.sub⟩ checkB env s
        | none => .no) tp2 (strangeX es) (fun env => ∃ x3 x4, env = [some (.loc l), some (.frz (.lst (hops.map tp2))), some (.frz (.lst ((srtT es).map tp2))), x3, x4]) ⟨s.ob, s.ob.length, false⟩ hops [some (.loc l), some (.frz (.lst (hops.map tp2))), some (.frz (.lst ((srtT es).map tp2))), none, none] (fun q hq env hi => by
      obtain ⟨x3, x4, rfl⟩ := hi
      refine ⟨[some (.loc l), some (.frz (.lst (hops.map tp2))), some (.frz (.lst ((srtT es).map tp2))), some (.int q.1), some (.int q.2)], ?_, _, _, rfl⟩
      show evSs _ checkB [some (.loc l), some (.frz (.lst (hops.map tp2))), some (.frz (.lst ((srtT es).map tp2))), some (.int q.1), some (.int q.2)] _ = _
      unfold checkB strangeX
      have cnd := cmp_ev (C := ⟨run G (n + 1), G.fuel, none, G.sub⟩) (op := .notin) (a := .tup [.var 3, .var 4]) (b := .var 2) (env := [some (.loc l), some (.frz (.lst (hops.map tp2))), some (.frz (.lst ((srtT es).map tp2))), some (.int q.1), some (.int q.2)]) (s := ⟨s.ob, s.ob.length, false⟩) (x := .tup [.int q.1, .int q.2]) (y := .frz (.lst ((srtT es).map tp2))) (bv := !decide (q ∈ es)) rfl rfl (by rw [notin_tps]; exact congrArg (fun b => some !b) (decide_eq_decide.mpr srtT_mem))
      rw [seq_cons]
      cases hd : decide (q ∈ es) with
      | true =>
        rw [hd] at cnd
        rw [ifs_f cnd rfl rfl]
        rfl
      | false =>
        rw [hd] at cnd
        rw [ifs_t cnd rfl rfl]
        rfl) ⟨none, none, rfl⟩
  have go : evSs ⟨run G (n + 1), G.fuel, none, G.sub⟩ fCheckHops.body [some (.loc l), some (.frz (.lst (hops.map tp2))), none, none, none] ⟨s.ob, s.ob.length, false⟩ = (match hopsX es hops with | none => .ok .next env' ⟨s.ob, s.ob.length, false⟩ | some d => .ex d env' ⟨s.ob, s.ob.length, false⟩) := by
    show evSs _ (_ :: [_]) _ _ = _
    rw [seq_go (env' := [some (.loc l), some (.frz (.lst (hops.map tp2))), some (.frz (.lst ((srtT es).map tp2))), none, none]) (asg_ev z3), seq_cons, for_itl rfl rfl rfl q]
    unfold hopsX
    cases hops.findSome? (strangeX es) <;> rfl
  show finR s (evSs _ fCheckHops.body _ ⟨s.ob, s.ob.length, false⟩) = _
  rw [go]
  cases hx : hopsX es hops with
  | none => exact fin_next s env'
  | some x => exact ex_pure s x env' (hopsX_lf hx)
/-! the pair that clashes first -/
def causeT (i j : Nat) (d : D) : Option D := match d with
  | .tup [a, b] => some (.tup [.int (i : Int), .int (j : Int), a, b])
  | _ => none
def cl (es hops : List (Int × Int)) (i j : Nat) : Option D := match hops[i]?, hops[j]? with
  | some q, some r => if decide (i < j) = true then causeT i j (reasonD es q r) else none
  | _, _ => none
def dueO (es hops : List (Int × Int)) : Option D := (List.range hops.length).findSome? fun i => (List.range hops.length).findSome? fun j => cl es hops i j
def dueD (es hops : List (Int × Int)) : D := (dueO es hops).getD .non
theorem reasonD_form (es : List (Int × Int)) (q r : Int × Int) : reasonD es q r = .non ∨ ∃ (t : List Nat) (x : Int), reasonD es q r = .tup [.str t, .int x] ∧ (t.all fun c => decide (c < 1114112)) = true := by
  unfold reasonD rsn
  repeat' split
  all_goals first | exact .inl rfl | exact .inr ⟨_, _, rfl, by decide⟩
theorem cl_form {es hops : List (Int × Int)} {i j : Nat} {d : D} (h : cl es hops i j = some d) : ∃ (t : List Nat) (x : Int), d = .tup [.int (i : Int), .int (j : Int), .str t, .int x] ∧ (t.all fun c => decide (c < 1114112)) = true := by
  unfold cl at h
  split at h
  · rename_i q r _ _
    split at h
    · rcases reasonD_form es q r with e | ⟨t, x, e, ht⟩
      · rw [e] at h; cases h
      · rw [e] at h; cases h; exact ⟨t, x, rfl, ht⟩
    · cases h
  · cases h
theorem dueO_form {es hops : List (Int × Int)} {d : D} (h : dueO es hops = some d) : ∃ (i j : Nat) (t : List Nat) (x : Int), d = .tup [.int (i : Int), .int (j : Int), .str t, .int x] ∧ (t.all fun c => decide (c < 1114112)) = true := by
  unfold dueO at h
  obtain ⟨i, _, h⟩ := List.exists_of_findSome?_eq_some h
  obtain ⟨j, _, h⟩ := List.exists_of_findSome?_eq_some h
  obtain ⟨t, x, e, ht⟩ := cl_form h
  exact ⟨i, j, t, x, e, ht⟩
theorem dueD_lf (es hops : List (Int × Int)) : (dueD es hops).lf = true := by
  unfold dueD
  cases h : dueO es hops with
  | none => rfl
  | some d => obtain ⟨i, j, t, x, rfl, _⟩ := dueO_form h; rfl
theorem dueD_sdat (es hops : List (Int × Int)) : sdat 1 (dueD es hops) = true := by
  unfold dueD
  cases h : dueO es hops with
  | none => rfl
  | some d =>
    obtain ⟨i, j, t, x, rfl, ht⟩ := dueO_form h
    show (decide (4 ≤ lenLine) && [D.int (i : Int), .int (j : Int), .str t, .int x].all (sdat 0)) = true
    simp [sdat, lenLine]
    simpa using ht
theorem gtI (a b : Int) (s : Sto) : cmp .gt (.int a) (.int b) s = some (decide (b < a)) := rfl
def fcB2 : List MS := [.ifs (.cmp .lt (.var 2) (.var 4)) [.asg [.nm 6] (.call "reason" [.var 0, .var 3, .var 5] [] [] [.pos 0, .pos 1, .pos 2]), .ifs (.isntN (.var 6)) [.ret (some (.tup [.var 2, .var 4, .idx (.var 6) (.cst (.int 0)), .idx (.var 6) (.cst (.int 1))]))] []] []]
def fcB1 : List MS := [.for (.tp [.nm 4, .nm 5]) (.enum (.var 1)) fcB2]
def fFirstClash : Fd := ⟨2, 7, [
    .exp (.call "check_hops" [.var 0, .var 1] [] [] [.pos 0, .pos 1]),
    .for (.tp [.nm 2, .nm 3]) (.enum (.var 1)) fcB1,
    .ret (some (.cst .non))]⟩
theorem zip_enum (hops : List (Int × Int)) : ((hops.map tp2).zipIdx.map fun p => D.tup [.int (p.2 : Int), p.1]) = hops.zipIdx.map fun p => D.tup [.int (p.2 : Int), tp2 p.1] := by
  rw [List.zipIdx_map, List.map_map]
  rfl
theorem for_enumT {C : Ctx} {t : Tgt} {e : ME} {bd : List MS} {hops : List (Int × Int)} {env : Env} {s s1 : Sto} {r : RS} (h : evE C e env s = .ok (.frz (.lst (hops.map tp2))) s1)
    (q : forL (fun d env s => match bindT 3 t d s env with
        | some env => evSs C bd env s
        | none => .no) (hops.zipIdx.map fun p => D.tup [.int (p.2 : Int), tp2 p.1]) env s1 = r) : evS C (.for t (.enum e) bd) env s = r :=
  for_enum h (by rw [zip_enum]; exact q)
theorem findSome_zipIdx {α β : Type} (f : α × Nat → Option β) (g : Nat → Option β) (l : List α) (h : ∀ p ∈ l.zipIdx, f p = g p.2) : l.zipIdx.findSome? f = (List.range l.length).findSome? g := by
  have e : l.zipIdx.findSome? f = l.zipIdx.findSome? (g ∘ Prod.snd) := by
    generalize l.zipIdx = m at h
    induction m with
    | nil => rfl
    | cons p m ih =>
      rw [List.findSome?_cons, List.findSome?_cons, h p List.mem_cons_self, ih fun q hq => h q (List.mem_cons_of_mem _ hq)]
      rfl
  rw [e, ← List.findSome?_map]
  have : l.zipIdx.map Prod.snd = List.range l.length := by
    rw [List.zipIdx_map_snd, List.range_eq_range']
  rw [this]
theorem firstclash_run (G : Pg) (h : G.fn "first_clash" = some fFirstClash) (hk : G.fn "check_hops" = some fCheckHops) (ha : G.fn "Field.all_ears" = some fAllEars) (hr : G.fn "reason" = some fReason) (hh : G.fn "Field.hears" = some fHears) (hc : G.fn "Field.check" = some fCheck) (n : Nat) (l a c : Nat) (hs : List Int) (es hops : List (Int × Int)) (s : Sto) (F : FieldAt s.ob l a c hs es) (hl : es.length ≤ lenLine) (he : EarL hs es) :
    run G (n + 4) "first_clash" [.loc l, .frz (.lst (hops.map tp2))] s = orX (hopsX es hops) (dueD es hops) s := by
  rw [run_eq G (n + 3) _ _ h _ _ rfl (by decide)]
  have rp : ([D.loc l, D.frz (.lst (hops.map tp2))].map some ++ List.replicate (fFirstClash.ns - fFirstClash.np) (none : Option D)) = [some (.loc l), some (.frz (.lst (hops.map tp2))), none, none, none, none, none] := rfl
  rw [rp]
  have ck := checkhops_run G hk ha (n + 1) l a c hs es hops ⟨s.ob, s.ob.length, false⟩ F hl
  have c0 := (call_ev (C := ⟨run G (n + 3), G.fuel, none, G.sub⟩) (f := "check_hops") (es := [.var 0, .var 1]) (pl := [.pos 0, .pos 1]) (env := [some (.loc l), some (.frz (.lst (hops.map tp2))), none, none, none, none, none]) (s := ⟨s.ob, s.ob.length, false⟩) (vs := [.loc l, .frz (.lst (hops.map tp2))]) (ds := [.loc l, .frz (.lst (hops.map tp2))]) rfl rfl).trans ck
  cases hx : hopsX es hops with
  | some x =>
    rw [hx] at c0
    have go : evSs ⟨run G (n + 3), G.fuel, none, G.sub⟩ fFirstClash.body [some (.loc l), some (.frz (.lst (hops.map tp2))), none, none, none, none, none] ⟨s.ob, s.ob.length, false⟩ = .ex x [some (.loc l), some (.frz (.lst (hops.map tp2))), none, none, none, none, none] ⟨s.ob, s.ob.length, false⟩ := by
      show evSs _ (_ :: [_, _]) _ _ = _
      rw [seq_cons]
      simp only [evS]
      rw [c0]
      rfl
    show finR s (evSs _ fFirstClash.body _ ⟨s.ob, s.ob.length, false⟩) = _
    rw [go]
    exact ex_pure s x _ (hopsX_lf hx)
  | none =>
    rw [hx] at c0
    have hin : ∀ q ∈ hops, q ∈ es := fun q hq => by
      have := List.findSome?_eq_none_iff.mp hx q hq
      unfold strangeX at this
      split at this
      · rename_i h; exact of_decide_eq_true h
      · cases this
    have inner : ∀ (i : Nat) (q : Int × Int) (x4 x5 x6 : Option D), hops[i]? = some q → ∃ env', forL (fun d env s => match bindT 3 (.tp [.nm 4, .nm 5]) d s env with
        | some env => evSs ⟨run G (n + 3), G.fuel, none, G.sub⟩ fcB2 env s
        | none => .no) (hops.zipIdx.map fun p => D.tup [.int (p.2 : Int), tp2 p.1]) [some (.loc l), some (.frz (.lst (hops.map tp2))), some (.int (i : Int)), some (tp2 q), x4, x5, x6] ⟨s.ob, s.ob.length, false⟩ = (match (List.range hops.length).findSome? (cl es hops i) with | none => .ok .next env' ⟨s.ob, s.ob.length, false⟩ | some d => .ok (.ret d) env' ⟨s.ob, s.ob.length, false⟩) ∧ ∃ x4 x5 x6, env' = [some (.loc l), some (.frz (.lst (hops.map tp2))), some (.int (i : Int)), some (tp2 q), x4, x5, x6] := fun i q x4 x5 x6 hi => by
      have hq : q ∈ es := hin q (List.mem_of_getElem? hi)
      rw [← findSome_zipIdx (fun p : (Int × Int) × Nat => if decide (i < p.2) = true then causeT i p.2 (reasonD es q p.1) else none) (cl es hops i) hops (fun p hp => by
        have hj := List.mem_zipIdx' hp
        unfold cl
        rw [hi, List.getElem?_eq_getElem hj.1, ← hj.2])]
      refine forL_some _ (fun p : (Int × Int) × Nat => D.tup [.int (p.2 : Int), tp2 p.1]) _ (fun env' => ∃ x4 x5 x6, env' = [some (.loc l), some (.frz (.lst (hops.map tp2))), some (.int (i : Int)), some (tp2 q), x4, x5, x6]) _ _ _ (fun p hp env hi' => ?_) ⟨x4, x5, x6, rfl⟩
      obtain ⟨x4, x5, x6, rfl⟩ := hi'
      have hj := List.mem_zipIdx' hp
      have hr' : p.1 ∈ es := hin p.1 (by rw [hj.2]; exact List.getElem_mem hj.1)
      obtain ⟨r, j⟩ := p
      dsimp only at hj hr' ⊢
      show ∃ env', evSs _ fcB2 [some (.loc l), some (.frz (.lst (hops.map tp2))), some (.int (i : Int)), some (tp2 q), some (.int (j : Int)), some (tp2 r), x6] _ = _ ∧ _
      have lt := cmp_ev (C := ⟨run G (n + 3), G.fuel, none, G.sub⟩) (op := .lt) (a := .var 2) (b := .var 4) (env := [some (.loc l), some (.frz (.lst (hops.map tp2))), some (.int (i : Int)), some (tp2 q), some (.int (j : Int)), some (tp2 r), x6]) (s := ⟨s.ob, s.ob.length, false⟩) (x := .int (i : Int)) (y := .int (j : Int)) (bv := decide (i < j)) rfl rfl (by rw [ltI]; exact congrArg some (decide_eq_decide.mpr (by omega)))
      unfold fcB2
      cases hd : decide (i < j) with
      | false =>
        rw [hd] at lt
        refine ⟨[some (.loc l), some (.frz (.lst (hops.map tp2))), some (.int (i : Int)), some (tp2 q), some (.int (j : Int)), some (tp2 r), x6], ?_, _, _, x6, rfl⟩
        rw [seq_go (ifs_f lt rfl rfl)]
        rfl
      | true =>
        rw [hd] at lt
        have re := reason_run G hr hh hc n l a c hs es q r ⟨s.ob, s.ob.length, false⟩ F (he.2 q hq).1 (he.2 q hq).2.1 (he.2 r hr').1 (he.2 r hr').2.1
        have c1 := (call_ev (C := ⟨run G (n + 3), G.fuel, none, G.sub⟩) (f := "reason") (es := [.var 0, .var 3, .var 5]) (pl := [.pos 0, .pos 1, .pos 2]) (env := [some (.loc l), some (.frz (.lst (hops.map tp2))), some (.int (i : Int)), some (tp2 q), some (.int (j : Int)), some (tp2 r), x6]) (s := ⟨s.ob, s.ob.length, false⟩) (vs := [.loc l, tp2 q, tp2 r]) (ds := [.loc l, tp2 q, tp2 r]) rfl rfl).trans re
        refine ⟨[some (.loc l), some (.frz (.lst (hops.map tp2))), some (.int (i : Int)), some (tp2 q), some (.int (j : Int)), some (tp2 r), some (reasonD es q r)], ?_, _, _, _, rfl⟩
        rw [seq_cons]
        rcases reasonD_form es q r with e | ⟨t, x, e, _⟩
        · rw [e] at c1 ⊢
          rw [ifs_t (r := .ok .next [some (.loc l), some (.frz (.lst (hops.map tp2))), some (.int (i : Int)), some (tp2 q), some (.int (j : Int)), some (tp2 r), some .non] ⟨s.ob, s.ob.length, false⟩) lt rfl (by
            rw [seq_go (env' := [some (.loc l), some (.frz (.lst (hops.map tp2))), some (.int (i : Int)), some (tp2 q), some (.int (j : Int)), some (tp2 r), some .non]) (asg_ev c1)]
            rfl)]
          rfl
        · rw [e] at c1 ⊢
          rw [ifs_t (r := .ok (.ret (.tup [.int (i : Int), .int (j : Int), .str t, .int x])) [some (.loc l), some (.frz (.lst (hops.map tp2))), some (.int (i : Int)), some (tp2 q), some (.int (j : Int)), some (tp2 r), some (.tup [.str t, .int x])] ⟨s.ob, s.ob.length, false⟩) lt rfl (by
            rw [seq_go (env' := [some (.loc l), some (.frz (.lst (hops.map tp2))), some (.int (i : Int)), some (tp2 q), some (.int (j : Int)), some (tp2 r), some (.tup [.str t, .int x])]) (asg_ev c1)]
            rfl)]
          rfl
    obtain ⟨env', q, x2, x3, x4, x5, x6, rfl⟩ := forL_some (fun d env s => match bindT 3 (.tp [.nm 2, .nm 3]) d s env with
        | some env => evSs ⟨run G (n + 3), G.fuel, none, G.sub⟩ fcB1 env s
        | none => .no) (fun p : (Int × Int) × Nat => D.tup [.int (p.2 : Int), tp2 p.1]) (fun p => (List.range hops.length).findSome? (cl es hops p.2)) (fun env' => ∃ x2 x3 x4 x5 x6, env' = [some (.loc l), some (.frz (.lst (hops.map tp2))), x2, x3, x4, x5, x6]) ⟨s.ob, s.ob.length, false⟩ hops.zipIdx [some (.loc l), some (.frz (.lst (hops.map tp2))), none, none, none, none, none] (fun p hp env hi => by
      obtain ⟨x2, x3, x4, x5, x6, rfl⟩ := hi
      have hj := List.mem_zipIdx' hp
      obtain ⟨r, j⟩ := p
      dsimp only at hj ⊢
      obtain ⟨env', q, y4, y5, y6, rfl⟩ := inner j r x4 x5 x6 ((List.getElem?_eq_getElem hj.1).trans (congrArg some hj.2.symm))
      refine ⟨[some (.loc l), some (.frz (.lst (hops.map tp2))), some (.int (j : Int)), some (tp2 r), y4, y5, y6], ?_, _, _, _, _, _, rfl⟩
      show evSs _ fcB1 [some (.loc l), some (.frz (.lst (hops.map tp2))), some (.int (j : Int)), some (tp2 r), x4, x5, x6] _ = _
      unfold fcB1
      rw [seq_cons, for_enumT rfl q]
      cases (List.range hops.length).findSome? (cl es hops j) <;> rfl) ⟨none, none, none, none, none, rfl⟩
    rw [findSome_zipIdx _ (fun i => (List.range hops.length).findSome? (cl es hops i)) hops (fun p hp => rfl)] at q
    have go : evSs ⟨run G (n + 3), G.fuel, none, G.sub⟩ fFirstClash.body [some (.loc l), some (.frz (.lst (hops.map tp2))), none, none, none, none, none] ⟨s.ob, s.ob.length, false⟩ = .ok (.ret (dueD es hops)) [some (.loc l), some (.frz (.lst (hops.map tp2))), x2, x3, x4, x5, x6] ⟨s.ob, s.ob.length, false⟩ := by
      show evSs _ (_ :: [_, _]) _ _ = _
      rw [seq_go (env' := [some (.loc l), some (.frz (.lst (hops.map tp2))), none, none, none, none, none]) (s' := ⟨s.ob, s.ob.length, false⟩) (by simp only [evS]; rw [c0]; rfl)]
      rw [seq_cons, for_enumT rfl q]
      unfold dueD dueO
      cases (List.range hops.length).findSome? (fun i => (List.range hops.length).findSome? (cl es hops i)) <;> rfl
    show finR s (evSs _ fFirstClash.body _ ⟨s.ob, s.ob.length, false⟩) = _
    rw [go]
    exact fin_pure s _ _ (dueD_lf es hops)
def isNonD : D → Bool
  | .non => true
  | _ => false
def fTogether : Fd := ⟨2, 2, [
    .ret (some (.isN (.call "first_clash" [.var 0, .var 1] [] [] [.pos 0, .pos 1])))]⟩
theorem together_run (G : Pg) (ht : G.fn "together" = some fTogether) (h : G.fn "first_clash" = some fFirstClash) (hk : G.fn "check_hops" = some fCheckHops) (ha : G.fn "Field.all_ears" = some fAllEars) (hr : G.fn "reason" = some fReason) (hh : G.fn "Field.hears" = some fHears) (hc : G.fn "Field.check" = some fCheck) (n : Nat) (l a c : Nat) (hs : List Int) (es hops : List (Int × Int)) (s : Sto) (F : FieldAt s.ob l a c hs es) (hl : es.length ≤ lenLine) (he : EarL hs es) :
    run G (n + 5) "together" [.loc l, .frz (.lst (hops.map tp2))] s = orX (hopsX es hops) (.bl (isNonD (dueD es hops))) s := by
  rw [run_eq G (n + 4) _ _ ht _ _ rfl (by decide)]
  have fc := firstclash_run G h hk ha hr hh hc n l a c hs es hops ⟨s.ob, s.ob.length, false⟩ F hl he
  have c0 := (call_ev (C := ⟨run G (n + 4), G.fuel, none, G.sub⟩) (f := "first_clash") (es := [.var 0, .var 1]) (pl := [.pos 0, .pos 1]) (env := [some (.loc l), some (.frz (.lst (hops.map tp2)))]) (s := ⟨s.ob, s.ob.length, false⟩) (vs := [.loc l, .frz (.lst (hops.map tp2))]) (ds := [.loc l, .frz (.lst (hops.map tp2))]) rfl rfl).trans fc
  show finR s (evSs ⟨run G (n + 4), G.fuel, none, G.sub⟩ fTogether.body [some (.loc l), some (.frz (.lst (hops.map tp2)))] ⟨s.ob, s.ob.length, false⟩) = _
  cases hx : hopsX es hops with
  | some x =>
    rw [hx] at c0
    have go : evSs ⟨run G (n + 4), G.fuel, none, G.sub⟩ fTogether.body [some (.loc l), some (.frz (.lst (hops.map tp2)))] ⟨s.ob, s.ob.length, false⟩ = .ex x [some (.loc l), some (.frz (.lst (hops.map tp2)))] ⟨s.ob, s.ob.length, false⟩ := by
      show evSs _ [_] _ _ = _
      have : evE ⟨run G (n + 4), G.fuel, none, G.sub⟩ (.isN (.call "first_clash" [.var 0, .var 1] [] [] [.pos 0, .pos 1])) [some (.loc l), some (.frz (.lst (hops.map tp2)))] ⟨s.ob, s.ob.length, false⟩ = .ex x ⟨s.ob, s.ob.length, false⟩ := by
        show (evE _ (.call "first_clash" [.var 0, .var 1] [] [] [.pos 0, .pos 1]) _ _).bind _ = _
        rw [c0]
        rfl
      rw [seq_cons]
      simp only [evS]
      rw [this]
      rfl
    rw [go]
    exact ex_pure s x _ (hopsX_lf hx)
  | none =>
    rw [hx] at c0
    have go : evSs ⟨run G (n + 4), G.fuel, none, G.sub⟩ fTogether.body [some (.loc l), some (.frz (.lst (hops.map tp2)))] ⟨s.ob, s.ob.length, false⟩ = .ok (.ret (.bl (isNonD (dueD es hops)))) [some (.loc l), some (.frz (.lst (hops.map tp2)))] ⟨s.ob, s.ob.length, false⟩ := by
      refine ret_ev ?_
      show (evE _ (.call "first_clash" [.var 0, .var 1] [] [] [.pos 0, .pos 1]) _ _).bind _ = _
      rw [c0]
      show R.ok (D.bl (match dueD es hops with | .non => true | _ => false)) _ = _
      cases dueD es hops <;> rfl
    rw [go]
    exact fin_pure s _ _ rfl
end Fn

set_option linter.all false
set_option maxRecDepth 100000
set_option maxHeartbeats 200000
namespace Fn
/-! P23: hops that a law draws. -/
/-- a loop, counted -/
theorem forL_invN {α : Type} (F : D → Env → Sto → RS) (g : α → D) (I : Nat → Env → Sto → Prop) (N : Nat) : ∀ (xs : List α) (k : Nat) (env : Env) (s : Sto), k + xs.length ≤ N → (∀ x ∈ xs, ∀ k env s, k < N → I k env s → ∃ env' s', F (g x) env s = .ok .next env' s' ∧ I (k + 1) env' s') → I k env s → ∃ env' s', forL F (xs.map g) env s = .ok .next env' s' ∧ I (k + xs.length) env' s'
  | [], k, env, s, _, _, h => ⟨env, s, rfl, h⟩
  | x :: xs, k, env, s, hN, hF, h => by
    rw [List.length_cons] at hN
    obtain ⟨e1, s1, q1, i1⟩ := hF x List.mem_cons_self k env s (by omega) h
    obtain ⟨e2, s2, q2, i2⟩ := forL_invN F g I N xs (k + 1) e1 s1 (by omega) (fun y hy => hF y (List.mem_cons_of_mem _ hy)) i1
    refine ⟨e2, s2, ?_, by rw [List.length_cons, Nat.add_comm xs.length 1, ← Nat.add_assoc]; exact i2⟩
    show (match F (g x) env s with | .ok .next env s => forL F (xs.map g) env s | r => r) = _
    rw [q1]
    exact q2
theorem bme_ev {C : Ctx} {b : Bme} {m : Bool} {o : ME} {es : List ME} {env : Env} {s s1 s2 s3 : Sto} {x d : D} {xs : List D} (ho : evE C o env s = .ok x s1) (hr : recv b x s1 = true) (he : evEs C es env s1 = .ok xs s2) (hd : bmeE b m x xs s2 = .ok d s3) : evE C (.bme b m o es) env s = .ok d s3 := by
  simp only [evE, ho, R.bind_ok, hr, if_true, he, hd]
theorem exp_ev {C : Ctx} {e : ME} {env : Env} {s s' : Sto} {d : D} (h : evE C e env s = .ok d s') : evS C (.exp e) env s = .ok .next env s' := by
  simp only [evS, h, R.then_ok]
theorem len_ev {C : Ctx} {α : Type} {g : α → D} {l : List α} {e : ME} {env : Env} {s s1 : Sto} (h : evE C e env s = .ok (.frz (.lst (l.map g))) s1) : evE C (.blt .len false [e]) env s = .ok (.int (l.length : Int)) s1 := by
  simp only [evE, evEs, h, R.bind_ok, len_frz]
theorem rcv_endA {A B : List Ob} {b : Nat} {e : Bool} {m : Nat} {ds : List D} (hm : m = A.length + B.length) : recv .append (.loc m) ⟨A ++ (B ++ [.lst ds]), b, e⟩ = true := by
  unfold recv view
  simp only [at_end hm, Option.map_some, Ob.unlk]
theorem app_end {A B : List Ob} {b : Nat} {e : Bool} {m : Nat} {ds : List D} {v : D} (hv : v.lf = true) (hm : m = A.length + B.length) (hl : ds.length < lenLine) :
    bmeE .append false (.loc m) [v] ⟨A ++ (B ++ [.lst ds]), b, e⟩ = .ok .non ⟨A ++ (B ++ [.lst (ds ++ [v])]), b, e⟩ := by
  show (match (A ++ (B ++ [Ob.lst ds]))[m]? with | some (.lst ds) => if ds.length < lenLine then R.ok D.non (Sto.put ⟨A ++ (B ++ [Ob.lst _]), b, e⟩ m (.lst (ds ++ [v])) v) else .no | _ => .no) = _
  rw [at_end hm]
  dsimp only
  rw [if_pos hl]
  unfold Sto.put
  simp only [set_end hm, hv]
  simp
theorem mk_true (X : List Ob) (b : Nat) (e : Bool) : mkLst true [] ⟨X, b, e⟩ = .ok (.loc X.length) ⟨X ++ [.lst []], b, e⟩ := rfl
/-- name = [] of a list that changes -/
theorem new_ev {C : Ctx} {i : Nat} {env : Env} {A B : List Ob} {b : Nat} {e : Bool} : evS C (.asg [.nm i] (.lst true [])) env ⟨A ++ B, b, e⟩ = .ok .next (env.set i (some (.loc (A ++ B).length))) ⟨A ++ (B ++ [.lst []]), b, e⟩ := by
  rw [← List.append_assoc]
  exact asg_ev (mk_true _ _ _)
def fHops : Fd := ⟨4, 7, [
    .ifs (.not (.var 1)) [.ret (some (.lst false []))] [],
    .asg [.nm 4] (.bin .add (.var 2) (.call "_law_take" [.var 0, .bin .add (.bin .sub (.var 3) (.var 2)) (.cst (.int 1))] [] [] [.pos 0, .pos 1])),
    .asg [.nm 5] (.lst true []),
    .for (.nm 6) (.rng (.var 4)) [.exp (.bme .append false (.var 5) [.idx (.var 1) (.call "_law_take" [.var 0, .blt .len false [.var 1]] [] [] [.pos 0, .pos 1])])],
    .ret (some (.frz 4 (.var 5)))]⟩
theorem hops_run (G : Pg) (h : G.fn "_law_hops" = some fHops) (ht : G.fn "_law_take" = some fTake) (n p : Nat) (es : List (Int × Int)) (least most : Int) (A B : List Ob) (b : Nat) (e : Bool) (hp : PotP p A) (hel : es.length ≤ 10000) (h0 : 0 ≤ least) (h1 : least ≤ most) (h2 : most ≤ 1000) :
    ∃ (hops : List (Int × Int)) (A' : List Ob), run G (n + 2) "_law_hops" [.loc p, .frz (.lst (es.map tp2)), .int least, .int most] ⟨A ++ B, b, e⟩ = .ok (.frz (.lst (hops.map tp2))) ⟨A' ++ B, b, e⟩ ∧ PotP p A' ∧ (∀ q ∈ hops, q ∈ es) ∧ (hops.length : Int) ≤ most ∧ (es ≠ [] → least ≤ hops.length) := by
  rw [run_eq G (n + 1) _ _ h _ _ rfl (by decide)]
  have rp : ([D.loc p, D.frz (.lst (es.map tp2)), D.int least, D.int most].map some ++ List.replicate (fHops.ns - fHops.np) (none : Option D)) = [some (.loc p), some (.frz (.lst (es.map tp2))), some (.int least), some (.int most), none, none, none] := rfl
  rw [rp]
  have c0 : evE ⟨run G (n + 1), G.fuel, none, G.sub⟩ (.not (.var 1)) [some (.loc p), some (.frz (.lst (es.map tp2))), some (.int least), some (.int most), none, none, none] ⟨A ++ B, (A ++ B).length, false⟩ = .ok (.bl es.isEmpty) ⟨A ++ B, (A ++ B).length, false⟩ := by
    simp only [evE, List.getElem?_cons_succ, List.getElem?_cons_zero, R.bind_ok, truth_frz, Option.map_some, at?_some, Bool.not_not]
  by_cases hes : es = []
  · subst hes
    refine ⟨[], A, ?_, hp, fun q hq => (nomatch hq), by simp; omega, fun z => absurd rfl z⟩
    have go : evSs ⟨run G (n + 1), G.fuel, none, G.sub⟩ fHops.body [some (.loc p), some (.frz (.lst (([] : List (Int × Int)).map tp2))), some (.int least), some (.int most), none, none, none] ⟨A ++ B, (A ++ B).length, false⟩ = .ok (.ret (.frz (.lst []))) [some (.loc p), some (.frz (.lst (([] : List (Int × Int)).map tp2))), some (.int least), some (.int most), none, none, none] ⟨A ++ B, (A ++ B).length, false⟩ := by
      show evSs _ (_ :: _) _ _ = _
      rw [seq_cons, ifs_t c0 rfl (ret_ev (lst_ev evs_nil (by decide)))]
    rw [go]
    exact fin_pure ⟨A ++ B, b, e⟩ _ _ rfl
  · have epos : 0 < es.length := List.length_pos_iff.mpr hes
    have em : es.isEmpty = false := by cases es with | nil => exact absurd rfl hes | cons _ _ => rfl
    rw [em] at c0
    obtain ⟨r, A1, t1, a1, b1, p1⟩ := take_ev ht n (m := .bin .add (.bin .sub (.var 3) (.var 2)) (.cst (.int 1))) (i := 0) (env := [some (.loc p), some (.frz (.lst (es.map tp2))), some (.int least), some (.int most), none, none, none]) (B := B) (b := (A ++ B).length) (e := false) (many := most - least + 1) rfl (bin_ev (bin_ev (x := .int most) (y := .int least) rfl rfl rfl) rfl rfl) hp (by omega) (by omega)
    obtain ⟨k, hk⟩ : ∃ k : Nat, least + r = (k : Int) := ⟨(least + r).toNat, by omega⟩
    have hl : (A ++ B).length = A1.length + B.length := by rw [List.length_append, p1.1, hp.1]
    obtain ⟨env', s', lp, x6, A2, hops, rfl, rfl, p2, hm, hln⟩ := forL_invN (fun d env s => match bindT 3 (.nm 6) d s env with
        | some env => evSs ⟨run G (n + 1), G.fuel, none, G.sub⟩ [.exp (.bme .append false (.var 5) [.idx (.var 1) (.call "_law_take" [.var 0, .blt .len false [.var 1]] [] [] [.pos 0, .pos 1])])] env s
        | none => .no) (fun (k : Nat) => D.int (k : Int)) (fun j env s => ∃ (x6 : Option D) (A2 : List Ob) (hops : List (Int × Int)), env = [some (.loc p), some (.frz (.lst (es.map tp2))), some (.int least), some (.int most), some (.int (k : Int)), some (.loc (A ++ B).length), x6] ∧ s = ⟨A2 ++ (B ++ [.lst (hops.map tp2)]), (A ++ B).length, false⟩ ∧ PotP p A2 ∧ (∀ q ∈ hops, q ∈ es) ∧ hops.length = j) k (List.range k) 0 [some (.loc p), some (.frz (.lst (es.map tp2))), some (.int least), some (.int most), some (.int (k : Int)), some (.loc (A ++ B).length), none] ⟨A1 ++ (B ++ [.lst (([] : List (Int × Int)).map tp2)]), (A ++ B).length, false⟩ (by rw [List.length_range]; omega) (fun x hx j env s hjk hi => by
      obtain ⟨x6, A2, hops, rfl, rfl, p2, hm, hln⟩ := hi
      obtain ⟨r3, A3, t3, a3, b3, p3⟩ := take_ev ht n (m := .blt .len false [.var 1]) (i := 0) (env := [some (.loc p), some (.frz (.lst (es.map tp2))), some (.int least), some (.int most), some (.int (k : Int)), some (.loc (A ++ B).length), some (.int (x : Int))]) (B := B ++ [.lst (hops.map tp2)]) (b := (A ++ B).length) (e := false) (many := es.length) rfl (len_ev (g := tp2) (l := es) rfl) p2 (by omega) (by omega)
      obtain ⟨q, hq, ix⟩ := pick_ix tp2 es a3 b3
      have hm2 : (A ++ B).length = A2.length + B.length := by rw [hl, p1.1, p2.1]
      have hm3 : (A ++ B).length = A3.length + B.length := by rw [hl, p1.1, p3.1]
      refine ⟨[some (.loc p), some (.frz (.lst (es.map tp2))), some (.int least), some (.int most), some (.int (k : Int)), some (.loc (A ++ B).length), some (.int (x : Int))], ⟨A3 ++ (B ++ [.lst ((hops ++ [q]).map tp2)]), (A ++ B).length, false⟩, ?_, some (.int (x : Int)), A3, hops ++ [q], rfl, rfl, p3, fun z hz => ?_, by rw [List.length_append, hln]; rfl⟩
      · show evSs _ [_] [some (.loc p), some (.frz (.lst (es.map tp2))), some (.int least), some (.int most), some (.int (k : Int)), some (.loc (A ++ B).length), some (.int (x : Int))] _ = _
        have ap := app_end (A := A3) (B := B) (b := (A ++ B).length) (e := false) (ds := hops.map tp2) (v := tp2 q) rfl hm3 (by rw [List.length_map, hln]; exact Nat.lt_of_le_of_lt (show j ≤ 1000 by omega) (by decide))
        have e1 : hops.map tp2 ++ [tp2 q] = (hops ++ [q]).map tp2 := by rw [List.map_append]; rfl
        rw [e1] at ap
        rw [seq_go (exp_ev (bme_ev (x := .loc (A ++ B).length) rfl (rcv_endA hm2) (evs_cons (idx_ev (x := .frz (.lst (es.map tp2))) rfl t3 ix) evs_nil) ap))]
        rfl
      · rcases List.mem_append.mp hz with h | h
        · exact hm z h
        · rw [List.mem_singleton.mp h]; exact hq) ⟨none, A1, [], rfl, rfl, p1, fun q hq => (nomatch hq), rfl⟩
    rw [List.length_range, Nat.zero_add] at hln
    refine ⟨hops, A2, ?_, p2, hm, by omega, fun _ => by omega⟩
    have go : evSs ⟨run G (n + 1), G.fuel, none, G.sub⟩ fHops.body [some (.loc p), some (.frz (.lst (es.map tp2))), some (.int least), some (.int most), none, none, none] ⟨A ++ B, (A ++ B).length, false⟩ = .ok (.ret (.frz (.lst (hops.map tp2)))) [some (.loc p), some (.frz (.lst (es.map tp2))), some (.int least), some (.int most), some (.int (k : Int)), some (.loc (A ++ B).length), x6] ⟨A2 ++ (B ++ [.dead]), (A ++ B).length, false⟩ := by
      show evSs _ (_ :: _ :: _ :: _ :: [_]) _ _ = _
      rw [seq_go (ifs_f c0 rfl rfl)]
      rw [seq_go (env' := [some (.loc p), some (.frz (.lst (es.map tp2))), some (.int least), some (.int most), some (.int (k : Int)), none, none]) (asg_ev (bin_ev (x := .int least) rfl t1 (by rw [add_D, hk])))]
      have hAB : (A1 ++ B).length = (A ++ B).length := by rw [hl, List.length_append]
      rw [seq_go (new_ev (A := A1) (B := B)), hAB]
      rw [seq_go (for_rng (i := (k : Int)) rfl (by omega) (by rw [Int.toNat_natCast]; exact lp))]
      refine ret_ev ?_
      have z := fz_tps (A := A2) (B := B) (b := (A ++ B).length) (e := false) (m := (A ++ B).length) (l := hops) (by rw [hl, p1.1, p2.1])
      simp only [evE, List.getElem?_cons_succ, List.getElem?_cons_zero, R.bind_ok, z]
    rw [go]
    exact fin_drop (lf_tps hops) (by rw [p2.1, hp.1])
/-- what is due, found pair by pair -/
def dueB2 : List MS := [.asg [.nm 4] (.cst .non), .ifs (.cmp .gt (.var 3) (.var 2)) [.asg [.nm 4] (.call "_law_reason" [.var 0, .idx (.var 1) (.var 2), .idx (.var 1) (.var 3)] [] [] [.pos 0, .pos 1, .pos 2])] [], .ifs (.isntN (.var 4)) [.ret (some (.tup [.var 2, .var 3, .idx (.var 4) (.cst (.int 0)), .idx (.var 4) (.cst (.int 1))]))] []]
def dueB1 : List MS := [.for (.nm 3) (.rng2 (.var 2) (.blt .len false [.var 1])) dueB2]
def fDue : Fd := ⟨2, 5, [
    .for (.nm 2) (.rng (.blt .len false [.var 1])) dueB1,
    .ret (some (.cst .non))]⟩
theorem rng_ev {C : Ctx} {e : ME} {i : Int} {env : Env} {s s1 : Sto} (h : evE C e env s = .ok (.int i) s1) (h0 : -1000000 ≤ i ∧ i < 1000000) : evI C (.rng e) env s = .ok ((List.range i.toNat).map (fun (k : Nat) => D.int (k : Int)), []) s1 := by
  simp only [evI, h, R.bind_ok]
  rw [if_pos ⟨by omega, by omega⟩]
theorem rng2_ev {C : Ctx} {a b : ME} {i j : Int} {env : Env} {s s1 s2 : Sto} (ha : evE C a env s = .ok (.int i) s1) (hb : evE C b env s1 = .ok (.int j) s2) (h0 : -1000000 ≤ i ∧ i < 1000000) (h1 : -1000000 ≤ j ∧ j < 1000000) : evI C (.rng2 a b) env s = .ok ((List.range (j - i).toNat).map (fun (k : Nat) => D.int (i + (k : Int))), []) s2 := by
  simp only [evI, ha, hb, R.bind_ok]
  rw [if_pos ⟨by omega, by omega, by omega, by omega⟩]
theorem for_rngR {C : Ctx} {t : Tgt} {e : ME} {bd : List MS} {k : Nat} {env : Env} {s s1 : Sto} {r : RS} (h : evE C e env s = .ok (.int (k : Int)) s1) (h0 : -1000000 ≤ (k : Int) ∧ (k : Int) < 1000000)
    (q : forL (fun d env s => match bindT 3 t d s env with
        | some env => evSs C bd env s
        | none => .no) ((List.range k).map fun (k : Nat) => D.int (k : Int)) env s1 = r) : evS C (.for t (.rng e) bd) env s = r.noxI false := by
  have e1 := rng_ev h h0
  rw [Int.toNat_natCast] at e1
  simp only [evS, e1, R.then_ok, lockAll]
  erw [q]
  exact unlock_nil _
theorem for_rng2R {C : Ctx} {t : Tgt} {a b : ME} {bd : List MS} {i j : Nat} {env : Env} {s s1 s2 : Sto} {r : RS} (ha : evE C a env s = .ok (.int (i : Int)) s1) (hb : evE C b env s1 = .ok (.int (j : Int)) s2) (h0 : -1000000 ≤ (i : Int) ∧ (i : Int) < 1000000) (h1 : -1000000 ≤ (j : Int) ∧ (j : Int) < 1000000)
    (q : forL (fun d env s => match bindT 3 t d s env with
        | some env => evSs C bd env s
        | none => .no) ((List.range (j - i)).map fun (k : Nat) => D.int ((i : Int) + (k : Int))) env s2 = r) : evS C (.for t (.rng2 a b) bd) env s = r.noxI false := by
  have e1 := rng2_ev ha hb h0 h1
  have : ((j : Int) - (i : Int)).toNat = j - i := by omega
  rw [this] at e1
  simp only [evS, e1, R.then_ok, lockAll]
  erw [q]
  exact unlock_nil _
theorem find_tail {β : Type} (f : Nat → Option β) (j n : Nat) (hj : j ≤ n) (h : ∀ i, i < j → f i = none) : (List.range n).findSome? f = (List.range (n - j)).findSome? fun k => f (j + k) := by
  have e : n = j + (n - j) := by omega
  conv => lhs; rw [e, List.range_add]
  rw [List.findSome?_append, List.findSome?_map]
  have : (List.range j).findSome? f = none := List.findSome?_eq_none_iff.mpr fun i hi => h i (List.mem_range.mp hi)
  rw [this]
  rfl
theorem due_run (G : Pg) (h : G.fn "_law_due" = some fDue) (hr : G.fn "_law_reason" = some fLawReason) (n : Nat) (es hops : List (Int × Int)) (s : Sto) (hl : (hops.length : Int) < 1000000) :
    run G (n + 2) "_law_due" [.frz (.lst (es.map tp2)), .frz (.lst (hops.map tp2))] s = .ok (dueD es hops) s := by
  rw [run_eq G (n + 1) _ _ h _ _ rfl (by decide)]
  have rp : ([D.frz (.lst (es.map tp2)), D.frz (.lst (hops.map tp2))].map some ++ List.replicate (fDue.ns - fDue.np) (none : Option D)) = [some (.frz (.lst (es.map tp2))), some (.frz (.lst (hops.map tp2))), none, none, none] := rfl
  rw [rp]
  have inner : ∀ (i : Nat) (x3 x4 : Option D), i < hops.length → ∃ env', forL (fun d env s => match bindT 3 (.nm 3) d s env with
        | some env => evSs ⟨run G (n + 1), G.fuel, none, G.sub⟩ dueB2 env s
        | none => .no) ((List.range (hops.length - i)).map fun (k : Nat) => D.int ((i : Int) + (k : Int))) [some (.frz (.lst (es.map tp2))), some (.frz (.lst (hops.map tp2))), some (.int (i : Int)), x3, x4] ⟨s.ob, s.ob.length, false⟩ = (match (List.range hops.length).findSome? (cl es hops i) with | none => .ok .next env' ⟨s.ob, s.ob.length, false⟩ | some d => .ok (.ret d) env' ⟨s.ob, s.ob.length, false⟩) ∧ ∃ x3 x4, env' = [some (.frz (.lst (es.map tp2))), some (.frz (.lst (hops.map tp2))), some (.int (i : Int)), x3, x4] := fun i x3 x4 hi => by
    rw [find_tail (cl es hops i) i hops.length (by omega) (fun j hj => by
      unfold cl
      split
      · rw [if_neg (by simp; omega)]
      · rfl)]
    refine forL_some _ (fun (k : Nat) => D.int ((i : Int) + (k : Int))) _ (fun env' => ∃ x3 x4, env' = [some (.frz (.lst (es.map tp2))), some (.frz (.lst (hops.map tp2))), some (.int (i : Int)), x3, x4]) _ _ _ (fun k hk env hi' => ?_) ⟨x3, x4, rfl⟩
    obtain ⟨x3, x4, rfl⟩ := hi'
    have hk := List.mem_range.mp hk
    have hj : i + k < hops.length := by omega
    have cle : cl es hops i (i + k) = if decide (i < i + k) = true then causeT i (i + k) (reasonD es hops[i] hops[i + k]) else none := by
      unfold cl
      rw [List.getElem?_eq_getElem hi, List.getElem?_eq_getElem hj]
    rw [cle]
    have ixi : ∀ (j : Nat) (hj : j < hops.length), ixAt (hops.map tp2) (j : Int) = some (tp2 hops[j]) := fun j hj => by
      unfold ixAt
      rw [if_pos (by omega), Int.toNat_natCast, List.getElem?_map, List.getElem?_eq_getElem hj]
      rfl
    have ji : ((i : Int) + (k : Int)) = ((i + k : Nat) : Int) := by omega
    rw [ji]
    generalize i + k = j at hj ⊢
    show ∃ env', evSs _ dueB2 [some (.frz (.lst (es.map tp2))), some (.frz (.lst (hops.map tp2))), some (.int (i : Int)), some (.int (j : Int)), x4] _ = _ ∧ _
    unfold dueB2
    have gt := cmp_ev (C := ⟨run G (n + 1), G.fuel, none, G.sub⟩) (op := .gt) (a := .var 3) (b := .var 2) (env := [some (.frz (.lst (es.map tp2))), some (.frz (.lst (hops.map tp2))), some (.int (i : Int)), some (.int (j : Int)), some .non]) (s := ⟨s.ob, s.ob.length, false⟩) (x := .int (j : Int)) (y := .int (i : Int)) (bv := decide (i < j)) rfl rfl (by rw [gtI]; exact congrArg some (decide_eq_decide.mpr (by omega)))
    have k0 : ∀ rest, evSs ⟨run G (n + 1), G.fuel, none, G.sub⟩ (.asg [.nm 4] (.cst .non) :: rest) [some (.frz (.lst (es.map tp2))), some (.frz (.lst (hops.map tp2))), some (.int (i : Int)), some (.int (j : Int)), x4] ⟨s.ob, s.ob.length, false⟩ = evSs ⟨run G (n + 1), G.fuel, none, G.sub⟩ rest [some (.frz (.lst (es.map tp2))), some (.frz (.lst (hops.map tp2))), some (.int (i : Int)), some (.int (j : Int)), some .non] ⟨s.ob, s.ob.length, false⟩ := fun rest => seq_go rfl
    cases hd : decide (i < j) with
    | false =>
      rw [hd] at gt
      refine ⟨[some (.frz (.lst (es.map tp2))), some (.frz (.lst (hops.map tp2))), some (.int (i : Int)), some (.int (j : Int)), some .non], ?_, _, _, rfl⟩
      rw [k0, seq_go (ifs_f gt rfl rfl)]
      rfl
    | true =>
      rw [hd] at gt
      have re := lawreason_run G hr n es hops[i] hops[j] ⟨s.ob, s.ob.length, false⟩
      have c1 := (call_ev (C := ⟨run G (n + 1), G.fuel, none, G.sub⟩) (f := "_law_reason") (es := [.var 0, .idx (.var 1) (.var 2), .idx (.var 1) (.var 3)]) (pl := [.pos 0, .pos 1, .pos 2]) (env := [some (.frz (.lst (es.map tp2))), some (.frz (.lst (hops.map tp2))), some (.int (i : Int)), some (.int (j : Int)), some .non]) (s := ⟨s.ob, s.ob.length, false⟩) (evs_cons (d := .frz (.lst (es.map tp2))) rfl (evs_cons (idx_ev (x := .frz (.lst (hops.map tp2))) (y := .int (i : Int)) rfl rfl (ixi i hi)) (evs_cons (idx_ev (x := .frz (.lst (hops.map tp2))) (y := .int (j : Int)) rfl rfl (ixi j hj)) evs_nil))) rfl).trans re
      refine ⟨[some (.frz (.lst (es.map tp2))), some (.frz (.lst (hops.map tp2))), some (.int (i : Int)), some (.int (j : Int)), some (reasonD es hops[i] hops[j])], ?_, _, _, rfl⟩
      rw [k0, seq_go (ifs_t (r := .ok .next [some (.frz (.lst (es.map tp2))), some (.frz (.lst (hops.map tp2))), some (.int (i : Int)), some (.int (j : Int)), some (reasonD es hops[i] hops[j])] ⟨s.ob, s.ob.length, false⟩) gt rfl ((seq_go (asg_ev c1)).trans rfl))]
      rcases reasonD_form es hops[i] hops[j] with e | ⟨t, x, e, _⟩ <;> rw [e] <;> rfl
  obtain ⟨env', q, x2, x3, x4, rfl⟩ := forL_some (fun d env s => match bindT 3 (.nm 2) d s env with
        | some env => evSs ⟨run G (n + 1), G.fuel, none, G.sub⟩ dueB1 env s
        | none => .no) (fun (k : Nat) => D.int (k : Int)) (fun i => (List.range hops.length).findSome? (cl es hops i)) (fun env' => ∃ x2 x3 x4, env' = [some (.frz (.lst (es.map tp2))), some (.frz (.lst (hops.map tp2))), x2, x3, x4]) ⟨s.ob, s.ob.length, false⟩ (List.range hops.length) [some (.frz (.lst (es.map tp2))), some (.frz (.lst (hops.map tp2))), none, none, none] (fun i hi env hi' => by
    obtain ⟨x2, x3, x4, rfl⟩ := hi'
    obtain ⟨env', q, y3, y4, rfl⟩ := inner i x3 x4 (List.mem_range.mp hi)
    refine ⟨_, ?_, some (.int (i : Int)), y3, y4, rfl⟩
    show evSs _ dueB1 [some (.frz (.lst (es.map tp2))), some (.frz (.lst (hops.map tp2))), some (.int (i : Int)), x3, x4] _ = _
    unfold dueB1
    rw [seq_cons, for_rng2R (i := i) (j := hops.length) rfl (len_ev (g := tp2) (l := hops) rfl) (by have := List.mem_range.mp hi; omega) ⟨by omega, hl⟩ q]
    cases (List.range hops.length).findSome? (cl es hops i) <;> rfl) ⟨none, none, none, rfl⟩
  have go : evSs ⟨run G (n + 1), G.fuel, none, G.sub⟩ fDue.body [some (.frz (.lst (es.map tp2))), some (.frz (.lst (hops.map tp2))), none, none, none] ⟨s.ob, s.ob.length, false⟩ = .ok (.ret (dueD es hops)) [some (.frz (.lst (es.map tp2))), some (.frz (.lst (hops.map tp2))), x2, x3, x4] ⟨s.ob, s.ob.length, false⟩ := by
    show evSs _ (_ :: [_]) _ _ = _
    rw [seq_cons, for_rngR (k := hops.length) (len_ev (g := tp2) (l := hops) rfl) ⟨by omega, hl⟩ q]
    unfold dueD dueO
    cases (List.range hops.length).findSome? (fun i => (List.range hops.length).findSome? (cl es hops i)) <;> rfl
  show finR s (evSs _ fDue.body _ ⟨s.ob, s.ob.length, false⟩) = _
  rw [go]
  exact fin_pure s _ _ (dueD_lf es hops)
end Fn

set_option linter.all false
set_option maxRecDepth 100000
set_option maxHeartbeats 1000000
namespace Fn
/-! P24: hops apart; k15's law. -/
theorem lt62 {i : Int} (h : i < 1000000) : i < 2 ^ 62 := by omega
theorem isN_ev {C : Ctx} {a : ME} {env : Env} {s s1 : Sto} {x : D} (ha : evE C a env s = .ok x s1) : evE C (.isN a) env s = .ok (.bl (isNonD x)) s1 := by
  simp only [evE, ha, R.bind_ok]
  cases x <;> rfl
def apB : List MS := [.ifs (.isN (.call "_law_due" [.var 1, .bin .add (.var 3) (.lst false [.var 4])] [] [] [.pos 0, .pos 1])) [.exp (.bme .append false (.var 3) [.var 4])] []]
def fApart : Fd := ⟨3, 5, [
    .asg [.nm 3] (.lst true []),
    .for (.nm 4) (.it (.var 2)) apB,
    .ifs (.and (.var 2) (.cmp .eq (.call "_law_take" [.var 0, .cst (.int 2)] [] [] [.pos 0, .pos 1]) (.cst (.int 0)))) [.exp (.bme .insert false (.var 3) [.call "_law_take" [.var 0, .bin .add (.blt .len false [.var 3]) (.cst (.int 1))] [] [] [.pos 0, .pos 1], .idx (.var 2) (.call "_law_take" [.var 0, .blt .len false [.var 2]] [] [] [.pos 0, .pos 1])])] [],
    .ret (some (.frz 4 (.var 3)))]⟩
theorem and_ev {C : Ctx} {a b : ME} {env : Env} {s s1 : Sto} {x : D} {r : R D} (ha : evE C a env s = .ok x s1) (ht : truth x s1 = some true) (hb : evE C b env s1 = r) : evE C (.and a b) env s = r := by
  simp only [evE, ha, R.bind_ok, ht, hb]
theorem and_evF {C : Ctx} {a b : ME} {env : Env} {s s1 : Sto} {x : D} (ha : evE C a env s = .ok x s1) (ht : truth x s1 = some false) : evE C (.and a b) env s = .ok x s1 := by
  simp only [evE, ha, R.bind_ok, ht]
theorem apart_run (G : Pg) (h : G.fn "_law_apart" = some fApart) (ht : G.fn "_law_take" = some fTake) (hd : G.fn "_law_due" = some fDue) (hr : G.fn "_law_reason" = some fLawReason) (n p : Nat) (es hops : List (Int × Int)) (A B : List Ob) (b : Nat) (e : Bool) (hp : PotP p A) (hm : ∀ q ∈ hops, q ∈ es) (hl : hops.length ≤ 1000) :
    ∃ (out : List (Int × Int)) (A' : List Ob), run G (n + 3) "_law_apart" [.loc p, .frz (.lst (es.map tp2)), .frz (.lst (hops.map tp2))] ⟨A ++ B, b, e⟩ = .ok (.frz (.lst (out.map tp2))) ⟨A' ++ B, b, e⟩ ∧ PotP p A' ∧ (∀ q ∈ out, q ∈ es) ∧ out.length ≤ hops.length + 1 := by
  rw [run_eq G (n + 2) _ _ h _ _ rfl (by decide)]
  have rp : ([D.loc p, D.frz (.lst (es.map tp2)), D.frz (.lst (hops.map tp2))].map some ++ List.replicate (fApart.ns - fApart.np) (none : Option D)) = [some (.loc p), some (.frz (.lst (es.map tp2))), some (.frz (.lst (hops.map tp2))), none, none] := rfl
  rw [rp]
  have hAB : (A ++ B).length = A.length + B.length := List.length_append
  obtain ⟨env', s', lp, x4, out, rfl, rfl, om, ol⟩ := forL_invN (fun d env s => match bindT 3 (.nm 4) d s env with
        | some env => evSs ⟨run G (n + 2), G.fuel, none, G.sub⟩ apB env s
        | none => .no) tp2 (fun j env s => ∃ (x4 : Option D) (out : List (Int × Int)), env = [some (.loc p), some (.frz (.lst (es.map tp2))), some (.frz (.lst (hops.map tp2))), some (.loc (A ++ B).length), x4] ∧ s = ⟨A ++ (B ++ [.lst (out.map tp2)]), (A ++ B).length, false⟩ ∧ (∀ q ∈ out, q ∈ es) ∧ out.length ≤ j) hops.length hops 0 [some (.loc p), some (.frz (.lst (es.map tp2))), some (.frz (.lst (hops.map tp2))), some (.loc (A ++ B).length), none] ⟨A ++ (B ++ [.lst (([] : List (Int × Int)).map tp2)]), (A ++ B).length, false⟩ (by omega) (fun q hq j env s hj hi => by
    obtain ⟨x4, out, rfl, rfl, om, ol⟩ := hi
    show ∃ env' s', evSs _ apB [some (.loc p), some (.frz (.lst (es.map tp2))), some (.frz (.lst (hops.map tp2))), some (.loc (A ++ B).length), some (tp2 q)] ⟨A ++ (B ++ [.lst (out.map tp2)]), (A ++ B).length, false⟩ = _ ∧ _
    have ln : out.length ≤ 1000 := by omega
    have ad : evE ⟨run G (n + 2), G.fuel, none, G.sub⟩ (.bin .add (.var 3) (.lst false [.var 4])) [some (.loc p), some (.frz (.lst (es.map tp2))), some (.frz (.lst (hops.map tp2))), some (.loc (A ++ B).length), some (tp2 q)] ⟨A ++ (B ++ [.lst (out.map tp2)]), (A ++ B).length, false⟩ = .ok (.frz (.lst ((out ++ [q]).map tp2))) ⟨A ++ (B ++ [.lst (out.map tp2)]), (A ++ B).length, false⟩ := by
      refine bin_ev (x := .loc (A ++ B).length) (y := .frz (.lst [tp2 q])) rfl (lst_ev (evs_cons rfl evs_nil) (by show 1 ≤ 16777216; decide)) ?_
      have v1 : view (.loc (A ++ B).length) ⟨A ++ (B ++ [.lst (out.map tp2)]), (A ++ B).length, false⟩ = some (.lst (out.map tp2)) := by
        unfold view
        simp only [at_end hAB, Option.map_some, Ob.unlk]
      show (match view (.loc (A ++ B).length) ⟨A ++ (B ++ [.lst (out.map tp2)]), (A ++ B).length, false⟩, view (.frz (.lst [tp2 q])) ⟨A ++ (B ++ [.lst (out.map tp2)]), (A ++ B).length, false⟩ with | some (.lst a), some (.lst b) => mkLst false (a ++ b) _ | _, _ => .no) = _
      rw [v1]
      show mkLst false (out.map tp2 ++ [tp2 q]) _ = _
      have e1 : out.map tp2 ++ [tp2 q] = (out ++ [q]).map tp2 := by rw [List.map_append]; rfl
      rw [e1]
      exact mk_frz (by rw [List.length_map, List.length_append]; exact Nat.le_trans (show out.length + 1 ≤ 2000 by omega) (by decide))
    have du := due_run G hd hr n es (out ++ [q]) ⟨A ++ (B ++ [.lst (out.map tp2)]), (A ++ B).length, false⟩ (by rw [List.length_append]; show ((out.length + 1 : Nat) : Int) < 1000000; omega)
    have cn := isN_ev ((call_ev (C := ⟨run G (n + 2), G.fuel, none, G.sub⟩) (f := "_law_due") (es := [.var 1, .bin .add (.var 3) (.lst false [.var 4])]) (pl := [.pos 0, .pos 1]) (evs_cons (d := .frz (.lst (es.map tp2))) rfl (evs_cons ad evs_nil)) rfl).trans du)
    unfold apB
    cases hn : isNonD (dueD es (out ++ [q])) with
    | false =>
      rw [hn] at cn
      refine ⟨_, _, ?_, some (tp2 q), out, rfl, rfl, om, by omega⟩
      rw [seq_go (ifs_f cn rfl rfl)]
      rfl
    | true =>
      rw [hn] at cn
      refine ⟨[some (.loc p), some (.frz (.lst (es.map tp2))), some (.frz (.lst (hops.map tp2))), some (.loc (A ++ B).length), some (tp2 q)], ⟨A ++ (B ++ [.lst ((out ++ [q]).map tp2)]), (A ++ B).length, false⟩, ?_, some (tp2 q), out ++ [q], rfl, rfl, fun z hz => ?_, by rw [List.length_append]; exact Nat.succ_le_succ ol⟩
      · have ap := app_end (A := A) (B := B) (b := (A ++ B).length) (e := false) (ds := out.map tp2) (v := tp2 q) rfl hAB (by rw [List.length_map]; exact Nat.lt_of_le_of_lt ln (by decide))
        have e1 : out.map tp2 ++ [tp2 q] = (out ++ [q]).map tp2 := by rw [List.map_append]; rfl
        rw [e1] at ap
        rw [seq_go (ifs_t cn rfl ((seq_go (exp_ev (bme_ev (x := .loc (A ++ B).length) rfl (rcv_endA hAB) (evs_cons (d := tp2 q) rfl evs_nil) ap))).trans rfl))]
        rfl
      · rcases List.mem_append.mp hz with h | h
        · exact om z h
        · rw [List.mem_singleton.mp h]; exact hm q hq) ⟨none, [], rfl, rfl, fun q hq => (nomatch hq), Nat.le_refl _⟩
  rw [Nat.zero_add] at ol
  have hlen : ∀ (l : List (Int × Int)) (A' : List Ob) env, A'.length = A.length → env[3]? = some (some (.loc (A ++ B).length)) → evE ⟨run G (n + 2), G.fuel, none, G.sub⟩ (.blt .len false [.var 3]) env ⟨A' ++ (B ++ [.lst (l.map tp2)]), (A ++ B).length, false⟩ = .ok (.int l.length) ⟨A' ++ (B ++ [.lst (l.map tp2)]), (A ++ B).length, false⟩ := fun l A' env hA he => by
    have := len_end (A := A') (B := B) (b := (A ++ B).length) (e := false) (m := (A ++ B).length) (ds := l.map tp2) (by rw [hA, hAB])
    rw [List.length_map] at this
    simp only [evE, evEs, he, R.bind_ok, this]
  -- one more at a drawn place
  obtain ⟨out2, A2, st, p2, om2, ol2⟩ : ∃ (out2 : List (Int × Int)) (A2 : List Ob), evS ⟨run G (n + 2), G.fuel, none, G.sub⟩ (.ifs (.and (.var 2) (.cmp .eq (.call "_law_take" [.var 0, .cst (.int 2)] [] [] [.pos 0, .pos 1]) (.cst (.int 0)))) [.exp (.bme .insert false (.var 3) [.call "_law_take" [.var 0, .bin .add (.blt .len false [.var 3]) (.cst (.int 1))] [] [] [.pos 0, .pos 1], .idx (.var 2) (.call "_law_take" [.var 0, .blt .len false [.var 2]] [] [] [.pos 0, .pos 1])])] []) [some (.loc p), some (.frz (.lst (es.map tp2))), some (.frz (.lst (hops.map tp2))), some (.loc (A ++ B).length), x4] ⟨A ++ (B ++ [.lst (out.map tp2)]), (A ++ B).length, false⟩ = .ok .next [some (.loc p), some (.frz (.lst (es.map tp2))), some (.frz (.lst (hops.map tp2))), some (.loc (A ++ B).length), x4] ⟨A2 ++ (B ++ [.lst (out2.map tp2)]), (A ++ B).length, false⟩ ∧ PotP p A2 ∧ (∀ q ∈ out2, q ∈ es) ∧ out2.length ≤ hops.length + 1 := by
    cases hh : hops with
    | nil =>
      refine ⟨out, A, ?_, hp, om, by rw [hh] at ol; omega⟩
      exact ifs_f (and_evF (x := .frz (.lst [])) rfl rfl) rfl rfl
    | cons q0 hops0 =>
      rw [← hh]
      have hpos : 0 < hops.length := by rw [hh]; simp
      obtain ⟨r1, A1, t1, a1, b1, p1⟩ := take_ev ht (n + 1) (m := .cst (.int 2)) (i := 0) (env := [some (.loc p), some (.frz (.lst (es.map tp2))), some (.frz (.lst (hops.map tp2))), some (.loc (A ++ B).length), x4]) (B := B ++ [.lst (out.map tp2)]) (b := (A ++ B).length) (e := false) rfl rfl hp (by decide) (by decide)
      have tr : truth (.frz (.lst (hops.map tp2))) ⟨A ++ (B ++ [.lst (out.map tp2)]), (A ++ B).length, false⟩ = some true := by rw [truth_frz, hh]; rfl
      have cq := cmp_ev (op := .eq) (b := .cst (.int 0)) (y := .int 0) (bv := decide (r1 = 0)) t1 rfl (eqI r1 0 _)
      cases h0 : decide (r1 = 0) with
      | false =>
        rw [h0] at cq
        exact ⟨out, A1, ifs_f (and_ev (x := .frz (.lst (hops.map tp2))) rfl tr cq) rfl rfl, p1, om, by omega⟩
      | true =>
        rw [h0] at cq
        obtain ⟨r2, A2, t2, a2, b2, p2⟩ := take_ev ht (n + 1) (m := .bin .add (.blt .len false [.var 3]) (.cst (.int 1))) (i := 0) (env := [some (.loc p), some (.frz (.lst (es.map tp2))), some (.frz (.lst (hops.map tp2))), some (.loc (A ++ B).length), x4]) (B := B ++ [.lst (out.map tp2)]) (b := (A ++ B).length) (e := false) (many := out.length + 1) rfl (bin_ev (hlen out A1 _ (by rw [p1.1, hp.1]) rfl) rfl (add_D _ _ _)) p1 (by omega) (by omega)
        obtain ⟨r3, A3, t3, a3, b3, p3⟩ := take_ev ht (n + 1) (m := .blt .len false [.var 2]) (i := 0) (env := [some (.loc p), some (.frz (.lst (es.map tp2))), some (.frz (.lst (hops.map tp2))), some (.loc (A ++ B).length), x4]) (B := B ++ [.lst (out.map tp2)]) (b := (A ++ B).length) (e := false) (many := hops.length) rfl (len_ev (g := tp2) (l := hops) rfl) p2 (by omega) (by omega)
        obtain ⟨q, hq, ix⟩ := pick_ix tp2 hops a3 b3
        have hm1 : (A ++ B).length = A1.length + B.length := by rw [hAB, p1.1, hp.1]
        have hm3 : (A ++ B).length = A3.length + B.length := by rw [hAB, p3.1, hp.1]
        have e4 := ins_end (A := A3) (B := B) (b := (A ++ B).length) (e := false) (m := (A ++ B).length) (ds := out.map tp2) (i := r2) (v := tp2 q) rfl hm3 ⟨a2, lt62 (by omega)⟩ (by rw [List.length_map]; exact Nat.lt_of_le_of_lt (show out.length ≤ 1000 by omega) (by decide))
        have hl' : ((out.map tp2).take r2.toNat ++ tp2 q :: (out.map tp2).drop r2.toNat) = (out.take r2.toNat ++ q :: out.drop r2.toNat).map tp2 := by
          rw [List.map_append, List.map_cons, List.map_take, List.map_drop]
        rw [hl'] at e4
        have ip := ins_perm out r2.toNat q
        refine ⟨out.take r2.toNat ++ q :: out.drop r2.toNat, A3, ?_, p3, fun z hz => ?_, by rw [ip.length_eq, List.length_cons]; omega⟩
        · refine ifs_t (and_ev (x := .frz (.lst (hops.map tp2))) rfl tr cq) rfl ?_
          rw [seq_go (exp_ev (bme_ev (x := .loc (A ++ B).length) rfl (rcv_end hm1) (evs_cons t2 (evs_cons (idx_ev (x := .frz (.lst (hops.map tp2))) rfl t3 ix) evs_nil)) e4))]
          rfl
        · rcases List.mem_cons.mp (ip.mem_iff.mp hz) with rfl | h
          · exact hm _ hq
          · exact om z h
  refine ⟨out2, A2, ?_, p2, om2, ol2⟩
  have go : evSs ⟨run G (n + 2), G.fuel, none, G.sub⟩ fApart.body [some (.loc p), some (.frz (.lst (es.map tp2))), some (.frz (.lst (hops.map tp2))), none, none] ⟨A ++ B, (A ++ B).length, false⟩ = .ok (.ret (.frz (.lst (out2.map tp2)))) [some (.loc p), some (.frz (.lst (es.map tp2))), some (.frz (.lst (hops.map tp2))), some (.loc (A ++ B).length), x4] ⟨A2 ++ (B ++ [.dead]), (A ++ B).length, false⟩ := by
    show evSs _ (_ :: _ :: _ :: [_]) _ _ = _
    rw [seq_go new_ev]
    rw [seq_go (for_it (ds := hops.map tp2) rfl lp), seq_go st]
    refine ret_ev ?_
    have z := fz_tps (A := A2) (B := B) (b := (A ++ B).length) (e := false) (m := (A ++ B).length) (l := out2) (by rw [hAB, p2.1, hp.1])
    simp only [evE, List.getElem?_cons_succ, List.getElem?_cons_zero, R.bind_ok, z]
  rw [go]
  exact fin_drop (lf_tps out2) (by rw [p2.1, hp.1])
end Fn

set_option linter.all false
set_option maxRecDepth 100000
set_option maxHeartbeats 1000000
namespace Fn
/-! P25: k15's law. -/
theorem or_evF {C : Ctx} {a b : ME} {env : Env} {s s1 : Sto} {x : D} {r : R D} (ha : evE C a env s = .ok x s1) (ht : truth x s1 = some false) (hb : evE C b env s1 = r) : evE C (.or a b) env s = r := by
  simp only [evE, ha, R.bind_ok, ht, hb]
theorem list_ev {C : Ctx} {a : ME} {env : Env} {s s1 : Sto} {ds : List D} (ha : evE C a env s = .ok (.frz (.lst ds)) s1) (hl : ds.length ≤ lenLine) : evE C (.blt .list false [a]) env s = .ok (.frz (.lst ds)) s1 := by
  simp only [evE, evEs, ha, R.bind_ok]
  exact mk_frz hl
theorem peqL_tp : ∀ l : List (Int × Int), peqL (l.map tp2) (l.map tp2) = true
  | [] => rfl
  | q :: l => by
    show (peq (tp2 q) (tp2 q) && peqL (l.map tp2) (l.map tp2)) = true
    rw [peqT, decide_eq_true rfl, peqL_tp l]
    rfl
theorem eq_tps (l : List (Int × Int)) (s : Sto) : cmp .eq (.frz (.lst (l.map tp2))) (.frz (.lst (l.map tp2))) s = some true := by
  have d1 : dat 60 (.frz (.lst (l.map tp2))) = true := datL_tp 58 l
  show (if dat 60 (.frz (.lst (l.map tp2))) = true ∧ dat 60 (.frz (.lst (l.map tp2))) = true then some (peq (.frz (.lst (l.map tp2))) (.frz (.lst (l.map tp2)))) else none) = _
  rw [if_pos ⟨d1, d1⟩]
  exact congrArg some (peqL_tp l)
theorem add_frz {α : Type} (g : α → D) (a b : List α) (s : Sto) (h : a.length + b.length ≤ lenLine) : bin .add (.frz (.lst (a.map g))) (.frz (.lst (b.map g))) s = .ok (.frz (.lst ((a ++ b).map g))) s := by
  show mkLst false (a.map g ++ b.map g) s = _
  rw [← List.map_append]
  exact mk_frz (by rw [List.length_map, List.length_append]; exact h)
theorem slc_ev {C : Ctx} {α : Type} {g : α → D} {l : List α} {a : ME} {lo hi : Option ME} {i j : Option Int} {env : Env} {s : Sto} (ha : evE C a env s = .ok (.frz (.lst (l.map g))) s) (hlo : evO C lo env s = .ok i s) (hhi : evO C hi env s = .ok j s) : evE C (.slc false a lo hi) env s = .ok (.frz (.lst ((cutL l i j).map g))) s := by
  rw [← cutL_map]
  simp only [evE, ha, hlo, hhi, R.bind_ok]
  rfl
theorem tup_ev {C : Ctx} {es : List ME} {env : Env} {s s1 : Sto} {ds : List D} (h : evEs C es env s = .ok ds s1) : evE C (.tup es) env s = .ok (.tup ds) s1 := by
  simp only [evE, h, R.bind_ok]
def lw15a : List MS := [
    .asg [.nm 1] (.call "_law_pot" [.var 0] [] [] [.pos 0]),
    .asg [.nm 2] (.call "_law_folk" [.var 1, .bin .add (.cst (.int 2)) (.call "_law_take" [.var 1, .cst (.int 6)] [] [] [.pos 0, .pos 1])] [] [] [.pos 0, .pos 1]),
    .asg [.nm 3] (.call "_law_ears" [.var 1, .var 2, .bin .add (.cst (.int 1)) (.call "_law_take" [.var 1, .cst (.int 4)] [] [] [.pos 0, .pos 1])] [] [] [.pos 0, .pos 1, .pos 2]),
    .asg [.nm 4] (.make "Field" [.var 2, .var 3] ["both"] [.cst (.bl false)] [.pos 0, .pos 1, .kw 0])]
/-- the first four rows: a pot, houses, ears, a field -/
theorem setup_run {G : Pg} (gf : GF G) (gl : GL G) (n : Nat) (ns : List Int) (hl : ns.length ≤ 63) (rest : Env) (many thick : Int) (h0 : 1 ≤ many ∧ many ≤ 30) (h1 : 1 ≤ thick ∧ thick ≤ 1000) :
    ∃ (p : Nat) (hs : List Int) (es : List (Int × Int)) (A : List Ob), evSs ⟨run G (n + 7), G.fuel, none, G.sub⟩ [
      .asg [.nm 1] (.call "_law_pot" [.var 0] [] [] [.pos 0]),
      .asg [.nm 2] (.call "_law_folk" [.var 1, .bin .add (.cst (.int 2)) (.call "_law_take" [.var 1, .cst (.int many)] [] [] [.pos 0, .pos 1])] [] [] [.pos 0, .pos 1]),
      .asg [.nm 3] (.call "_law_ears" [.var 1, .var 2, .bin .add (.cst (.int 1)) (.call "_law_take" [.var 1, .cst (.int thick)] [] [] [.pos 0, .pos 1])] [] [] [.pos 0, .pos 1, .pos 2]),
      .asg [.nm 4] (.make "Field" [.var 2, .var 3] ["both"] [.cst (.bl false)] [.pos 0, .pos 1, .kw 0])] (some (.klst (ns.map D.int)) :: none :: none :: none :: none :: rest) ⟨[], 0, false⟩ = .ok .next (some (.klst (ns.map D.int)) :: some (.loc p) :: some (.frz (.lst (hs.map D.int))) :: some (.frz (.lst (es.map tp2))) :: some (.loc A.length) :: rest) ⟨A ++ FldB A.length hs es, 0, true⟩ ∧
      PotP p A ∧ FolkL 1000000000 hs ∧ 2 ≤ hs.length ∧ hs.length ≤ 32 ∧ EarL hs es ∧ es.length ≤ 10000 := by
  obtain ⟨p, A0, t0, p0⟩ := pot_pot G gl.pot (n + 6) ns hl
  obtain ⟨r2, A2, t2, a2, b2, p2⟩ := take_ev gl.take (n + 6) (m := .cst (.int many)) (i := 1) (env := some (.klst (ns.map D.int)) :: some (.loc p) :: none :: none :: none :: rest) (B := []) (b := 0) (e := false) rfl rfl p0 (by omega) (by omega)
  obtain ⟨k, hk⟩ : ∃ k : Nat, 2 + r2 = (k : Int) := ⟨(2 + r2).toNat, by omega⟩
  obtain ⟨hs, A3, t3, p3, hf, hfl⟩ := folk_run G gl.folk gl.take (n + 5) p k A2 [] 0 false p2 (by omega) (by omega)
  obtain ⟨r4, A4, t4, a4, b4, p4⟩ := take_ev gl.take (n + 6) (m := .cst (.int thick)) (i := 1) (env := some (.klst (ns.map D.int)) :: some (.loc p) :: some (.frz (.lst (hs.map D.int))) :: none :: none :: rest) (B := []) (b := 0) (e := false) rfl rfl p3 (by omega) (by omega)
  obtain ⟨es, A5, t5, p5, he, hel⟩ := ears_run G gl.ears gl.take (n + 5) p hs (1 + r4) A4 [] 0 false p4 (by omega) hf.1
  refine ⟨p, hs, es, A5, ?_, p5, hf, by omega, by omega, he, hel⟩
  have ev0 : evS ⟨run G (n + 7), G.fuel, none, G.sub⟩ (.asg [.nm 1] (.call "_law_pot" [.var 0] [] [] [.pos 0])) (some (.klst (ns.map D.int)) :: none :: none :: none :: none :: rest) ⟨[], 0, false⟩ = .ok .next (some (.klst (ns.map D.int)) :: some (.loc p) :: none :: none :: none :: rest) ⟨A0 ++ [], 0, false⟩ := by
    rw [List.append_nil]
    exact asg_ev ((call_ev (evs_cons rfl evs_nil) rfl).trans t0)
  have ev1 : evS ⟨run G (n + 7), G.fuel, none, G.sub⟩ (.asg [.nm 2] (.call "_law_folk" [.var 1, .bin .add (.cst (.int 2)) (.call "_law_take" [.var 1, .cst (.int many)] [] [] [.pos 0, .pos 1])] [] [] [.pos 0, .pos 1])) (some (.klst (ns.map D.int)) :: some (.loc p) :: none :: none :: none :: rest) ⟨A0 ++ [], 0, false⟩ = .ok .next (some (.klst (ns.map D.int)) :: some (.loc p) :: some (.frz (.lst (hs.map D.int))) :: none :: none :: rest) ⟨A3 ++ [], 0, false⟩ := by
    have t3' := bin_ev (op := .add) (a := .cst (.int 2)) (x := .int 2) rfl t2 (z := .int k) (by rw [add_D, hk])
    exact asg_ev ((call_ev (evs_cons (e := .var 1) (d := .loc p) rfl (evs_cons t3' evs_nil)) rfl).trans t3)
  have ev2 : evS ⟨run G (n + 7), G.fuel, none, G.sub⟩ (.asg [.nm 3] (.call "_law_ears" [.var 1, .var 2, .bin .add (.cst (.int 1)) (.call "_law_take" [.var 1, .cst (.int thick)] [] [] [.pos 0, .pos 1])] [] [] [.pos 0, .pos 1, .pos 2])) (some (.klst (ns.map D.int)) :: some (.loc p) :: some (.frz (.lst (hs.map D.int))) :: none :: none :: rest) ⟨A3 ++ [], 0, false⟩ = .ok .next (some (.klst (ns.map D.int)) :: some (.loc p) :: some (.frz (.lst (hs.map D.int))) :: some (.frz (.lst (es.map tp2))) :: none :: rest) ⟨A5, 0, false⟩ := by
    have t4' := bin_ev (op := .add) (a := .cst (.int 1)) (x := .int 1) rfl t4 (add_D 1 r4 _)
    rw [List.append_nil A5] at t5
    exact asg_ev ((call_ev (evs_cons (e := .var 1) (d := .loc p) rfl (evs_cons (e := .var 2) (d := .frz (.lst (hs.map D.int))) rfl (evs_cons t4' evs_nil))) rfl).trans t5)
  rw [seq_go ev0, seq_go ev1, seq_go ev2, seq_go (asg_ev (make_ev gf.init gf.ce gf.ck (n + 4) rfl rfl hf (by omega) he (by omega)))]
  rfl
def sameE (X Y : ME) : ME := .call "_law_same" [X, Y] [] [] [.pos 0, .pos 1]
def fcE (v : Nat) : ME := .call "first_clash" [.var 4, .var v] [] [] [.pos 0, .pos 1]
def tgE (v : Nat) : ME := .call "together" [.var 4, .var v] [] [] [.pos 0, .pos 1]
def bad15 : ME := .bin .add (.bin .add (.bin .add (.slc false (.var 5) none (some (.var 9))) (.lst false [.tup [.idx (.var 2) (.cst (.int 0)), .var 8]])) (.slc false (.var 5) (some (.var 9)) none)) (.lst false [.tup [.var 8, .idx (.var 2) (.cst (.int 1))]])
def due15 : ME := .tup [.cst (.str [78, 111, 69, 97, 114]), .idx (.var 2) (.cst (.int 0)), .var 8]
def fLaw15 : Fd := ⟨1, 11, lw15a ++ [
    .asg [.nm 5] (.call "_law_hops" [.var 1, .var 3, .cst (.int 0), .cst (.int 7)] [] [] [.pos 0, .pos 1, .pos 2, .pos 3]),
    .ifs (.cmp .eq (.call "_law_take" [.var 1, .cst (.int 6)] [] [] [.pos 0, .pos 1]) (.cst (.int 0))) [.asg [.nm 5] (.call "_law_hops" [.var 1, .var 3, .cst (.int 11), .cst (.int 30)] [] [] [.pos 0, .pos 1, .pos 2, .pos 3])] [],
    .ifs (.cmp .eq (.call "_law_take" [.var 1, .cst (.int 2)] [] [] [.pos 0, .pos 1]) (.cst (.int 0))) [.asg [.nm 5] (.call "_law_apart" [.var 1, .var 3, .bin .add (.var 5) (.slc false (.var 3) none (some (.cst (.int 8))))] [] [] [.pos 0, .pos 1, .pos 2])] [],
    .asg [.nm 6] (.call "_law_due" [.var 3, .var 5] [] [] [.pos 0, .pos 1]),
    .asg [.nm 7] (.blt .list false [.var 5]),
    .ifs (.or (.not (sameE (fcE 7) (.var 6))) (.not (sameE (tgE 7) (.isN (.var 6))))) [.ret (some (.cst (.bl false)))] [],
    .asg [.nm 8] (.call "_law_stranger" [.var 1, .var 2] [] [] [.pos 0, .pos 1]),
    .asg [.nm 9] (.call "_law_take" [.var 1, .bin .add (.blt .len false [.var 5]) (.cst (.int 1))] [] [] [.pos 0, .pos 1]),
    .asg [.nm 10] bad15,
    sameT (.why "_law_why" wsE (tgE 10)) due15,
    .ret (some (.and (.cmp .eq (.var 7) (.var 5)) (sameE (.why "_law_why" wsE (fcE 10)) due15)))]⟩
structure G15 (G : Pg) : Prop extends GF G, GL G, GH G where
  checkhops : G.fn "check_hops" = some fCheckHops
  fc : G.fn "first_clash" = some fFirstClash
  tg : G.fn "together" = some fTogether
  hops : G.fn "_law_hops" = some fHops
  due : G.fn "_law_due" = some fDue
  apart : G.fn "_law_apart" = some fApart
  stranger : G.fn "_law_stranger" = some fStranger
  law : G.fn "law" = some fLaw15
  why : G.sub "NoEar" "NoEar" = true
def E15 (ns hs : List Int) (es : List (Int × Int)) (p m : Nat) (x5 x6 x7 x8 x9 x10 : Option D) : Env := [some (.klst (ns.map D.int)), some (.loc p), some (.frz (.lst (hs.map D.int))), some (.frz (.lst (es.map tp2))), some (.loc m), x5, x6, x7, x8, x9, x10]
def tps (l : List (Int × Int)) : Option D := some (.frz (.lst (l.map tp2)))
theorem hopsX_app {es a b : List (Int × Int)} (h : ∀ q ∈ a, q ∈ es) : hopsX es (a ++ b) = hopsX es b := by
  unfold hopsX
  rw [List.findSome?_append]
  have : a.findSome? (strangeX es) = none := List.findSome?_eq_none_iff.mpr fun q hq => by
    unfold strangeX
    rw [if_pos (decide_eq_true (h q hq))]
  rw [this]
  rfl
theorem hopsX_none {es a : List (Int × Int)} (h : ∀ q ∈ a, q ∈ es) : hopsX es a = none := by
  have := hopsX_app (b := []) h
  rw [List.append_nil] at this
  exact this
theorem hopsX_hit {es a : List (Int × Int)} {q : Int × Int} (h : q ∉ es) : hopsX es (q :: a) = some (noEar q) := by
  unfold hopsX strangeX
  rw [List.findSome?_cons, if_neg (by rw [decide_eq_false h]; decide)]
theorem law15_run {G : Pg} (g : G15 G) (n : Nat) (ns : List Int) (hl : ns.length ≤ 63) : ∃ s', run G (n + 8) "law" [.klst (ns.map D.int)] ⟨[], 0, false⟩ = .ok (.bl true) s' := by
  rw [run_eq G (n + 7) _ _ g.law _ _ rfl (by decide)]
  obtain ⟨p, hs, es, A5, ev0, p5, hf, hl2, hl3, he, hel⟩ := setup_run g.toGF g.toGL n ns hl [none, none, none, none, none, none] 6 4 (by decide) (by decide)
  generalize hm : A5.length = m at ev0
  have lel : es.length ≤ lenLine := Nat.le_trans hel (by decide)
  have FA : ∀ A, PotP p A → FieldAt (A ++ FldB m hs es) m (m + 1) (m + 2) hs es := fun A hA => fldB_end (by rw [hA.1, ← hm, p5.1])
  have sm : ∀ (d : D) (k : Nat), k ≤ 6 → sdat k d = true → ∀ s, run G (n + 7) "_law_same" [d, d] s = .ok (.bl true) s := fun d k hk hd s => same_any g.same (n + 7) k d hd (by omega) s
  -- hops
  obtain ⟨h1, A6, t6, p6, m6, l6, _⟩ := hops_run G g.hops g.take (n + 5) p es 0 7 A5 (FldB m hs es) 0 true p5 hel (by decide) (by decide) (by decide)
  have ev1 : evS ⟨run G (n + 7), G.fuel, none, G.sub⟩ (.asg [.nm 5] (.call "_law_hops" [.var 1, .var 3, .cst (.int 0), .cst (.int 7)] [] [] [.pos 0, .pos 1, .pos 2, .pos 3])) (E15 ns hs es p m none none none none none none) ⟨A5 ++ FldB m hs es, 0, true⟩ = .ok .next (E15 ns hs es p m (tps h1) none none none none none) ⟨A6 ++ FldB m hs es, 0, true⟩ := asg_ev ((call_ev rfl rfl).trans t6)
  obtain ⟨r7, A7, t7, a7, b7, p7⟩ := take_ev g.take (n + 6) (m := .cst (.int 6)) (i := 1) (env := E15 ns hs es p m (tps h1) none none none none none) (B := FldB m hs es) (b := 0) (e := true) rfl rfl p6 (by decide) (by decide)
  obtain ⟨h2, A8, ev2, p8, m8, l8⟩ : ∃ (h2 : List (Int × Int)) (A8 : List Ob), evS ⟨run G (n + 7), G.fuel, none, G.sub⟩ (.ifs (.cmp .eq (.call "_law_take" [.var 1, .cst (.int 6)] [] [] [.pos 0, .pos 1]) (.cst (.int 0))) [.asg [.nm 5] (.call "_law_hops" [.var 1, .var 3, .cst (.int 11), .cst (.int 30)] [] [] [.pos 0, .pos 1, .pos 2, .pos 3])] []) (E15 ns hs es p m (tps h1) none none none none none) ⟨A6 ++ FldB m hs es, 0, true⟩ = .ok .next (E15 ns hs es p m (tps h2) none none none none none) ⟨A8 ++ FldB m hs es, 0, true⟩ ∧ PotP p A8 ∧ (∀ q ∈ h2, q ∈ es) ∧ (h2.length : Int) ≤ 30 := by
    have cq := cmp_ev (op := .eq) (b := .cst (.int 0)) (y := .int 0) (bv := decide (r7 = 0)) t7 rfl (eqI r7 0 _)
    cases h0 : decide (r7 = 0) with
    | false =>
      rw [h0] at cq
      exact ⟨h1, A7, ifs_f cq rfl rfl, p7, m6, by omega⟩
    | true =>
      rw [h0] at cq
      obtain ⟨h2, A8, t8, p8, m8, l8, _⟩ := hops_run G g.hops g.take (n + 5) p es 11 30 A7 (FldB m hs es) 0 true p7 hel (by decide) (by decide) (by decide)
      exact ⟨h2, A8, ifs_t cq rfl ((seq_go (env' := E15 ns hs es p m (tps h2) none none none none none) (asg_ev ((call_ev rfl rfl).trans t8))).trans rfl), p8, m8, l8⟩
  obtain ⟨r9, A9, t9, a9, b9, p9⟩ := take_ev g.take (n + 6) (m := .cst (.int 2)) (i := 1) (env := E15 ns hs es p m (tps h2) none none none none none) (B := FldB m hs es) (b := 0) (e := true) rfl rfl p8 (by decide) (by decide)
  obtain ⟨h3, A10, ev3, p10, m10, l10⟩ : ∃ (h3 : List (Int × Int)) (A10 : List Ob), evS ⟨run G (n + 7), G.fuel, none, G.sub⟩ (.ifs (.cmp .eq (.call "_law_take" [.var 1, .cst (.int 2)] [] [] [.pos 0, .pos 1]) (.cst (.int 0))) [.asg [.nm 5] (.call "_law_apart" [.var 1, .var 3, .bin .add (.var 5) (.slc false (.var 3) none (some (.cst (.int 8))))] [] [] [.pos 0, .pos 1, .pos 2])] []) (E15 ns hs es p m (tps h2) none none none none none) ⟨A8 ++ FldB m hs es, 0, true⟩ = .ok .next (E15 ns hs es p m (tps h3) none none none none none) ⟨A10 ++ FldB m hs es, 0, true⟩ ∧ PotP p A10 ∧ (∀ q ∈ h3, q ∈ es) ∧ h3.length ≤ 11000 := by
    have cq := cmp_ev (op := .eq) (b := .cst (.int 0)) (y := .int 0) (bv := decide (r9 = 0)) t9 rfl (eqI r9 0 _)
    cases h0 : decide (r9 = 0) with
    | false =>
      rw [h0] at cq
      exact ⟨h2, A9, ifs_f cq rfl rfl, p9, m8, by omega⟩
    | true =>
      rw [h0] at cq
      have c8 : (cutL es none (some 8)).length ≤ 8 := by
        unfold cutL
        rw [List.length_take]
        have : cutAt es.length 8 ≤ 8 := by
          unfold cutAt
          rw [if_neg (by decide)]
          exact Nat.min_le_left _ _
        dsimp only
        omega
      have hlen : (h2 ++ cutL es none (some 8)).length ≤ 38 := by rw [List.length_append]; omega
      obtain ⟨h3, A10, t10, p10, m10, l10⟩ := apart_run G g.apart g.take g.due g.lreason (n + 4) p es (h2 ++ cutL es none (some 8)) A9 (FldB m hs es) 0 true p9 (fun q hq => by
        rcases List.mem_append.mp hq with h | h
        · exact m8 q h
        · exact cutL_mem h) (by omega)
      have ad : evE ⟨run G (n + 7), G.fuel, none, G.sub⟩ (.bin .add (.var 5) (.slc false (.var 3) none (some (.cst (.int 8))))) (E15 ns hs es p m (tps h2) none none none none none) ⟨A9 ++ FldB m hs es, 0, true⟩ = .ok (.frz (.lst ((h2 ++ cutL es none (some 8)).map tp2))) ⟨A9 ++ FldB m hs es, 0, true⟩ :=
        bin_ev (x := .frz (.lst (h2.map tp2))) rfl (slc_ev (g := tp2) (l := es) rfl rfl rfl) (add_frz tp2 _ _ _ (by rw [← List.length_append]; exact Nat.le_trans hlen (by decide)))
      exact ⟨h3, A10, ifs_t cq rfl ((seq_go (env' := E15 ns hs es p m (tps h3) none none none none none) (asg_ev ((call_ev (evs_cons (d := .loc p) rfl (evs_cons (d := .frz (.lst (es.map tp2))) rfl (evs_cons ad evs_nil))) rfl).trans t10))).trans rfl), p10, m10, by omega⟩
  -- what is due
  have ev4 : evS ⟨run G (n + 7), G.fuel, none, G.sub⟩ (.asg [.nm 6] (.call "_law_due" [.var 3, .var 5] [] [] [.pos 0, .pos 1])) (E15 ns hs es p m (tps h3) none none none none none) ⟨A10 ++ FldB m hs es, 0, true⟩ = .ok .next (E15 ns hs es p m (tps h3) (some (dueD es h3)) none none none none) ⟨A10 ++ FldB m hs es, 0, true⟩ :=
    asg_ev ((call_ev rfl rfl).trans (due_run G g.due g.lreason (n + 5) es h3 _ (by omega)))
  have ev5 : evS ⟨run G (n + 7), G.fuel, none, G.sub⟩ (.asg [.nm 7] (.blt .list false [.var 5])) (E15 ns hs es p m (tps h3) (some (dueD es h3)) none none none none) ⟨A10 ++ FldB m hs es, 0, true⟩ = .ok .next (E15 ns hs es p m (tps h3) (some (dueD es h3)) (tps h3) none none none) ⟨A10 ++ FldB m hs es, 0, true⟩ :=
    asg_ev (list_ev (ds := h3.map tp2) rfl (by rw [List.length_map]; exact Nat.le_trans l10 (by decide)))
  have fc : ∀ (hops : List (Int × Int)) (A : List Ob), PotP p A → run G (n + 7) "first_clash" [.loc m, .frz (.lst (hops.map tp2))] ⟨A ++ FldB m hs es, 0, true⟩ = orX (hopsX es hops) (dueD es hops) ⟨A ++ FldB m hs es, 0, true⟩ := fun hops A hA => firstclash_run G g.fc g.checkhops g.allears g.reason g.hears g.ck (n + 3) m (m + 1) (m + 2) hs es hops _ (FA A hA) lel he
  have tg : ∀ (hops : List (Int × Int)) (A : List Ob), PotP p A → run G (n + 7) "together" [.loc m, .frz (.lst (hops.map tp2))] ⟨A ++ FldB m hs es, 0, true⟩ = orX (hopsX es hops) (.bl (isNonD (dueD es hops))) ⟨A ++ FldB m hs es, 0, true⟩ := fun hops A hA => together_run G g.tg g.fc g.checkhops g.allears g.reason g.hears g.ck (n + 2) m (m + 1) (m + 2) hs es hops _ (FA A hA) lel he
  have ev6 : evS ⟨run G (n + 7), G.fuel, none, G.sub⟩ (.ifs (.or (.not (sameE (fcE 7) (.var 6))) (.not (sameE (tgE 7) (.isN (.var 6))))) [.ret (some (.cst (.bl false)))] []) (E15 ns hs es p m (tps h3) (some (dueD es h3)) (tps h3) none none none) ⟨A10 ++ FldB m hs es, 0, true⟩ = .ok .next (E15 ns hs es p m (tps h3) (some (dueD es h3)) (tps h3) none none none) ⟨A10 ++ FldB m hs es, 0, true⟩ := by
    have q1 := fc h3 A10 p10
    have q2 := tg h3 A10 p10
    rw [hopsX_none m10] at q1 q2
    have s1 := same_ret (C := ⟨run G (n + 7), G.fuel, none, G.sub⟩) (X := fcE 7) (Y := .var 6) (env := E15 ns hs es p m (tps h3) (some (dueD es h3)) (tps h3) none none none) ((call_ev rfl rfl).trans q1) rfl (sm _ 1 (by decide) (dueD_sdat es h3) _)
    have s2 := same_ret (C := ⟨run G (n + 7), G.fuel, none, G.sub⟩) (X := tgE 7) (Y := .isN (.var 6)) (env := E15 ns hs es p m (tps h3) (some (dueD es h3)) (tps h3) none none none) ((call_ev rfl rfl).trans q2) (isN_ev rfl) (sm _ 0 (by decide) rfl _)
    exact ifs_f (or_evF (not_ev s1) rfl (not_ev s2)) rfl rfl
  -- a strange one
  obtain ⟨lo, A11, t11, p11, n11, m11⟩ := stranger_run G g.stranger g.take (n + 5) p hs A10 (FldB m hs es) 0 true p10 (by have := g.fuel; omega)
  have ev7 : evS ⟨run G (n + 7), G.fuel, none, G.sub⟩ (.asg [.nm 8] (.call "_law_stranger" [.var 1, .var 2] [] [] [.pos 0, .pos 1])) (E15 ns hs es p m (tps h3) (some (dueD es h3)) (tps h3) none none none) ⟨A10 ++ FldB m hs es, 0, true⟩ = .ok .next (E15 ns hs es p m (tps h3) (some (dueD es h3)) (tps h3) (some (.int lo)) none none) ⟨A11 ++ FldB m hs es, 0, true⟩ := asg_ev ((call_ev rfl rfl).trans t11)
  obtain ⟨r12, A12, t12, a12, b12, p12⟩ := take_ev g.take (n + 6) (m := .bin .add (.blt .len false [.var 5]) (.cst (.int 1))) (i := 1) (env := E15 ns hs es p m (tps h3) (some (dueD es h3)) (tps h3) (some (.int lo)) none none) (B := FldB m hs es) (b := 0) (e := true) (many := h3.length + 1) rfl (bin_ev (len_ev (g := tp2) (l := h3) rfl) rfl (add_D _ _ _)) p11 (by omega) (by omega)
  have ev8 : evS ⟨run G (n + 7), G.fuel, none, G.sub⟩ (.asg [.nm 9] (.call "_law_take" [.var 1, .bin .add (.blt .len false [.var 5]) (.cst (.int 1))] [] [] [.pos 0, .pos 1])) (E15 ns hs es p m (tps h3) (some (dueD es h3)) (tps h3) (some (.int lo)) none none) ⟨A11 ++ FldB m hs es, 0, true⟩ = .ok .next (E15 ns hs es p m (tps h3) (some (dueD es h3)) (tps h3) (some (.int lo)) (some (.int r12)) none) ⟨A12 ++ FldB m hs es, 0, true⟩ := asg_ev t12
  obtain ⟨f0, hf0, jx0⟩ := pick_ix D.int hs (r := 0) (by decide) (by omega)
  obtain ⟨f1, hf1, jx1⟩ := pick_ix D.int hs (r := 1) (by decide) (by omega)
  have nb : (f0, lo) ∉ es := fun h => n11 (he.2 _ h).2.1
  generalize hb : (cutL h3 none (some r12) ++ [(f0, lo)]) ++ cutL h3 (some r12) none ++ [(lo, f1)] = bad
  have hbX : hopsX es bad = some (noEar (f0, lo)) := by
    rw [← hb, List.append_assoc, List.append_assoc, hopsX_app (fun q hq => m10 q (cutL_mem hq))]
    exact hopsX_hit nb
  have ev9 : evS ⟨run G (n + 7), G.fuel, none, G.sub⟩ (.asg [.nm 10] bad15) (E15 ns hs es p m (tps h3) (some (dueD es h3)) (tps h3) (some (.int lo)) (some (.int r12)) none) ⟨A12 ++ FldB m hs es, 0, true⟩ = .ok .next (E15 ns hs es p m (tps h3) (some (dueD es h3)) (tps h3) (some (.int lo)) (some (.int r12)) (tps bad)) ⟨A12 ++ FldB m hs es, 0, true⟩ := by
    have c1 := cutL_len h3 none (some r12)
    have c2 := cutL_len h3 (some r12) none
    have k0 : evE ⟨run G (n + 7), G.fuel, none, G.sub⟩ (.lst false [.tup [.idx (.var 2) (.cst (.int 0)), .var 8]]) (E15 ns hs es p m (tps h3) (some (dueD es h3)) (tps h3) (some (.int lo)) (some (.int r12)) none) ⟨A12 ++ FldB m hs es, 0, true⟩ = .ok (.frz (.lst ([(f0, lo)].map tp2))) ⟨A12 ++ FldB m hs es, 0, true⟩ :=
      lst_ev (evs_cons (tup_ev (evs_cons (idx_ev (x := .frz (.lst (hs.map D.int))) rfl rfl jx0) (evs_cons rfl evs_nil))) evs_nil) (by show 1 ≤ 16777216; decide)
    have k1 : evE ⟨run G (n + 7), G.fuel, none, G.sub⟩ (.lst false [.tup [.var 8, .idx (.var 2) (.cst (.int 1))]]) (E15 ns hs es p m (tps h3) (some (dueD es h3)) (tps h3) (some (.int lo)) (some (.int r12)) none) ⟨A12 ++ FldB m hs es, 0, true⟩ = .ok (.frz (.lst ([(lo, f1)].map tp2))) ⟨A12 ++ FldB m hs es, 0, true⟩ :=
      lst_ev (evs_cons (tup_ev (evs_cons rfl (evs_cons (idx_ev (x := .frz (.lst (hs.map D.int))) rfl rfl jx1) evs_nil))) evs_nil) (by show 1 ≤ 16777216; decide)
    have z : evE ⟨run G (n + 7), G.fuel, none, G.sub⟩ bad15 (E15 ns hs es p m (tps h3) (some (dueD es h3)) (tps h3) (some (.int lo)) (some (.int r12)) none) ⟨A12 ++ FldB m hs es, 0, true⟩ = .ok (.frz (.lst (bad.map tp2))) ⟨A12 ++ FldB m hs es, 0, true⟩ := by
      rw [← hb]
      have lim : ∀ k, k ≤ 30000 → k ≤ lenLine := fun k hk => Nat.le_trans hk (by decide)
      refine bin_ev (bin_ev (bin_ev (slc_ev (g := tp2) (l := h3) rfl rfl rfl) k0 (add_frz tp2 _ _ _ (lim _ ?_))) (slc_ev (g := tp2) (l := h3) rfl rfl rfl) (add_frz tp2 _ _ _ (lim _ ?_))) k1 (add_frz tp2 _ _ _ (lim _ ?_)) <;> simp only [List.length_append, List.length_cons, List.length_nil] <;> omega
    exact asg_ev z
  have du : ∀ s, evE ⟨run G (n + 7), G.fuel, none, G.sub⟩ due15 (E15 ns hs es p m (tps h3) (some (dueD es h3)) (tps h3) (some (.int lo)) (some (.int r12)) (tps bad)) s = .ok (.tup [.str sNoEar, .int f0, .int lo]) s := fun s => tup_ev (evs_cons rfl (evs_cons (idx_ev (x := .frz (.lst (hs.map D.int))) rfl rfl jx0) (evs_cons rfl evs_nil)))
  have q1 := fc bad A12 p12
  have q2 := tg bad A12 p12
  rw [hbX] at q1 q2
  have ev10 : evS ⟨run G (n + 7), G.fuel, none, G.sub⟩ (sameT (.why "_law_why" wsE (tgE 10)) due15) (E15 ns hs es p m (tps h3) (some (dueD es h3)) (tps h3) (some (.int lo)) (some (.int r12)) (tps bad)) ⟨A12 ++ FldB m hs es, 0, true⟩ = .ok .next (E15 ns hs es p m (tps h3) (some (dueD es h3)) (tps h3) (some (.int lo)) (some (.int r12)) (tps bad)) ⟨A12 ++ FldB m hs es, 0, true⟩ :=
    same_st (why_ev ((call_ev rfl rfl).trans q2) (whyE g.why _)) (du _) (sm _ 1 (by decide) rfl _)
  have ev11 : evE ⟨run G (n + 7), G.fuel, none, G.sub⟩ (.and (.cmp .eq (.var 7) (.var 5)) (sameE (.why "_law_why" wsE (fcE 10)) due15)) (E15 ns hs es p m (tps h3) (some (dueD es h3)) (tps h3) (some (.int lo)) (some (.int r12)) (tps bad)) ⟨A12 ++ FldB m hs es, 0, true⟩ = .ok (.bl true) ⟨A12 ++ FldB m hs es, 0, true⟩ :=
    and_ev (cmp_ev (x := .frz (.lst (h3.map tp2))) (y := .frz (.lst (h3.map tp2))) rfl rfl (eq_tps h3 _)) rfl (same_ret (why_ev ((call_ev rfl rfl).trans q1) (whyE g.why _)) (du _) (sm _ 1 (by decide) rfl _))
  have go : evSs ⟨run G (n + 7), G.fuel, none, G.sub⟩ fLaw15.body ([D.klst (ns.map D.int)].map some ++ List.replicate (fLaw15.ns - fLaw15.np) none) ⟨[], 0, false⟩ = .ok (.ret (.bl true)) (E15 ns hs es p m (tps h3) (some (dueD es h3)) (tps h3) (some (.int lo)) (some (.int r12)) (tps bad)) ⟨A12 ++ FldB m hs es, 0, true⟩ := by
    show evSs _ (lw15a ++ (_ :: _ :: _ :: _ :: _ :: _ :: _ :: _ :: _ :: _ :: [_])) [some (.klst (ns.map D.int)), none, none, none, none, none, none, none, none, none, none] _ = _
    rw [seq_app]
    unfold lw15a
    rw [ev0]
    dsimp only
    have e15 : [some (D.klst (ns.map D.int)), some (.loc p), some (.frz (.lst (hs.map D.int))), some (.frz (.lst (es.map tp2))), some (.loc m), none, none, none, none, none, none] = E15 ns hs es p m none none none none none none := rfl
    rw [e15, seq_go ev1, seq_go ev2, seq_go ev3, seq_go ev4, seq_go ev5, seq_go ev6, seq_go ev7, seq_go ev8, seq_go ev9, seq_go ev10]
    exact ret_ev ev11
  exact ⟨_, by
    show finR ⟨[], 0, false⟩ (evSs _ fLaw15.body _ ⟨[], 0, false⟩) = _
    rw [go]
    rfl⟩
end Fn

set_option linter.all false
set_option maxRecDepth 100000
set_option maxHeartbeats 1000000
namespace Fn
/-! P26: lists that a law goes on to change; k07's law. -/
section
variable {A B : List Ob} {b : Nat} {e : Bool} {p i : Nat}
theorem getB (hA : A.length = p + 1) : (A ++ B)[p + 1 + i]? = B[i]? := by
  rw [List.getElem?_append_right (by omega)]
  congr 1
  omega
theorem setB (hA : A.length = p + 1) (o : Ob) : (A ++ B).set (p + 1 + i) o = A ++ B.set i o := by
  rw [List.set_append_right _ _ (by omega)]
  congr 2
  omega
theorem view_B (hA : A.length = p + 1) {ds : List D} (h : B[i]? = some (.lst ds)) : view (.loc (p + 1 + i)) ⟨A ++ B, b, e⟩ = some (.lst ds) := by
  unfold view
  simp only [getB hA, h, Option.map_some, Ob.unlk]
theorem view_Bk (hA : A.length = p + 1) {ds : List D} (h : B[i]? = some (.lk (.lst ds))) : view (.loc (p + 1 + i)) ⟨A ++ B, b, e⟩ = some (.lst ds) := by
  unfold view
  simp only [getB hA, h, Option.map_some, Ob.unlk]
theorem lst_V {l : Nat} {s : Sto} {ds : List D} (h : view (.loc l) s = some (.lst ds)) : lstOf (.loc l) s = some ds := by
  unfold lstOf
  simp only [h]
theorem seq_V {l : Nat} {s : Sto} {ds : List D} (h : view (.loc l) s = some (.lst ds)) : seqOf (.loc l) s = some ds := by
  unfold seqOf
  simp only [h]
theorem dct_V {l : Nat} {s : Sto} {ds : List D} (h : view (.loc l) s = some (.lst ds)) : dctOf (.loc l) s = none := by
  unfold dctOf
  simp only [h]
theorem len_V {l : Nat} {s : Sto} {ds : List D} (h : view (.loc l) s = some (.lst ds)) : bltE .len false [.loc l] s = .ok (.int ds.length) s := by
  unfold bltE
  simp only [dct_V h, seq_V h]
theorem idx_V {l : Nat} {s : Sto} {ds : List D} (h : view (.loc l) s = some (.lst ds)) (k : Int) : idx (.loc l) (.int k) s = ixAt ds k := by
  unfold idx
  simp only [dct_V h, seq_V h]
theorem truth_V {l : Nat} {s : Sto} {ds : List D} (h : view (.loc l) s = some (.lst ds)) : truth (.loc l) s = some (!ds.isEmpty) := by
  unfold truth
  simp only [seq_V h]
theorem isin_V {l : Nat} {s : Sto} {hs : List Int} (h : view (.loc l) s = some (.lst (hs.map D.int))) (x : Int) : cmp .isin (.int x) (.loc l) s = some (decide (x ∈ hs)) := by
  show inOf (.int x) (.loc l) s = _
  unfold inOf
  rw [dct_V h, seq_V h]
  exact memI x hs
theorem notin_V {l : Nat} {s : Sto} {hs : List Int} (h : view (.loc l) s = some (.lst (hs.map D.int))) (x : Int) : cmp .notin (.int x) (.loc l) s = some (!decide (x ∈ hs)) := by
  have := isin_V h x
  show (inOf (.int x) (.loc l) s).map (fun b => !b) = _
  rw [show inOf (.int x) (.loc l) s = some (decide (x ∈ hs)) from this]
  rfl
theorem slc_V {l : Nat} {s : Sto} {ds : List D} (h : view (.loc l) s = some (.lst ds)) (lo hi : Option Int) : slc false (.loc l) lo hi s = .ok (.frz (.lst (cutL ds lo hi))) s := by
  unfold slc
  simp only [lst_V h]
  rfl
theorem list_V {l : Nat} {s : Sto} {ds : List D} (h : view (.loc l) s = some (.lst ds)) (hl : ds.length ≤ lenLine) : bltE .list false [.loc l] s = .ok (.frz (.lst ds)) s := by
  unfold bltE
  simp only [seq_V h]
  exact mk_frz hl
theorem ins_B (hA : A.length = p + 1) {ds : List D} {r : Int} {v : D} (h : B[i]? = some (.lst ds)) (hv : v.lf = true) (hr : 0 ≤ r ∧ r < 1000000) (hl : ds.length ≤ 100000) :
    recv .insert (.loc (p + 1 + i)) ⟨A ++ B, b, e⟩ = true ∧ bmeE .insert false (.loc (p + 1 + i)) [.int r, v] ⟨A ++ B, b, e⟩ = .ok .non ⟨A ++ B.set i (.lst (ds.take r.toNat ++ v :: ds.drop r.toNat)), b, e⟩ := by
  refine ⟨by unfold recv; simp only [view_B hA h], ?_⟩
  show (match (A ++ B)[p + 1 + i]? with | some (.lst ds) => if ds.length < lenLine ∧ 0 ≤ r ∧ r < 2 ^ 62 then R.ok D.non (Sto.put ⟨A ++ B, b, e⟩ (p + 1 + i) (.lst (ds.take r.toNat ++ v :: ds.drop r.toNat)) v) else .no | _ => .no) = _
  rw [getB hA, h]
  dsimp only
  rw [if_pos ⟨Nat.lt_of_le_of_lt hl (by decide), hr.1, lt62 hr.2⟩]
  unfold Sto.put
  simp only [setB hA, hv]
  simp
end
def fFolkM : Fd := ⟨2, 5, [
    .asg [.nm 2] (.lst true []),
    .asg [.nm 3] (.cst (.int 0)),
    .for (.nm 4) (.rng (.var 1)) folkB,
    .ifs (.and (.cmp .gt (.var 1) (.cst (.int 0))) (.cmp .eq (.call "_law_take" [.var 0, .cst (.int 5)] [] [] [.pos 0, .pos 1]) (.cst (.int 0)))) [.asg [.ix (.var 2) (.bme .index false (.var 2) [.var 3])] (.cst (.int 1000000000))] [],
    .ret (some (.var 2))]⟩
/-- what a def answers at a new place -/
theorem fin_loc {A B A' X : List Ob} {b : Nat} {e : Bool} {l : Nat} {env : Env} : finR ⟨A ++ B, b, e⟩ (.ok (.ret (.loc l)) env ⟨A' ++ (B ++ X), (A ++ B).length, false⟩) = .ok (.loc l) ⟨A' ++ (B ++ X), b, e⟩ := by
  show (if (A ++ B).length = (A ++ B).length then R.ok (D.loc l) (finB ⟨A ++ B, b, e⟩ false _) else .no) = _
  rw [if_pos rfl]
  unfold finB
  rw [if_neg (by intro h; cases h.1)]
  simp
theorem folkM_run (G : Pg) (h : G.fn "_law_folk" = some fFolkM) (ht : G.fn "_law_take" = some fTake) (n p k : Nat) (A B : List Ob) (b : Nat) (e : Bool) (hp : PotP p A) (hk : (k : Int) ≤ 100) :
    ∃ (l : List Int) (A' : List Ob), run G (n + 2) "_law_folk" [.loc p, .int (k : Int)] ⟨A ++ B, b, e⟩ = .ok (.loc (A ++ B).length) ⟨A' ++ (B ++ [.lst (l.map D.int)]), b, e⟩ ∧ PotP p A' ∧ FolkL 1000000000 l ∧ l.length = k := by
  rw [run_eq G (n + 1) _ _ h _ _ rfl (by decide)]
  have rp : ([D.loc p, D.int (k : Int)].map some ++ List.replicate (fFolkM.ns - fFolkM.np) (none : Option D)) = [some (.loc p), some (.int (k : Int)), none, none, none] := rfl
  rw [rp]
  obtain ⟨v, l, A1, x', f1, p1, q1, q2, q3, q4, q5⟩ := folk_loop G ht n p (A ++ B).length (some (.int (k : Int))) B (A ++ B).length false (fun d env s => match bindT 3 (.nm 4) d s env with
        | some env => evSs ⟨run G (n + 1), G.fuel, none, G.sub⟩ folkB env s
        | none => .no) (fun j at_ x s => rfl) k 0 none 0 [] A (by omega) hp (by rw [List.length_append]) ⟨List.nodup_nil, fun x hx => by cases hx⟩ (by omega) (by simp)
  have q4' : l.length = k := by simpa using q4
  have hm1 : (A ++ B).length = A1.length + B.length := by rw [List.length_append, p1.1, hp.1]
  have go : evSs ⟨run G (n + 1), G.fuel, none, G.sub⟩ fFolkM.body [some (.loc p), some (.int (k : Int)), none, none, none] ⟨A ++ B, (A ++ B).length, false⟩ = evSs ⟨run G (n + 1), G.fuel, none, G.sub⟩ [.ifs (.and (.cmp .gt (.var 1) (.cst (.int 0))) (.cmp .eq (.call "_law_take" [.var 0, .cst (.int 5)] [] [] [.pos 0, .pos 1]) (.cst (.int 0)))) [.asg [.ix (.var 2) (.bme .index false (.var 2) [.var 3])] (.cst (.int 1000000000))] [], .ret (some (.var 2))] [some (.loc p), some (.int (k : Int)), some (.loc (A ++ B).length), some (.int v), x'] ⟨A1 ++ (B ++ [.lst (l.map D.int)]), (A ++ B).length, false⟩ := by
    show evSs _ (_ :: _ :: _ :: [_, _]) _ _ = _
    rw [seq_go new_ev]
    simp only [List.set_cons_succ, List.set_cons_zero]
    rw [seq_go (asg_ev (d := .int 0) rfl)]
    simp only [List.set_cons_succ, List.set_cons_zero]
    rw [seq_go (for_rng (i := (k : Int)) rfl (by omega) (by rw [Int.toNat_natCast, List.range_eq_range']; exact f1))]
  have gt : ∀ s, evE ⟨run G (n + 1), G.fuel, none, G.sub⟩ (.cmp .gt (.var 1) (.cst (.int 0))) [some (.loc p), some (.int (k : Int)), some (.loc (A ++ B).length), some (.int v), x'] s = .ok (.bl (decide (0 < k))) s := fun s => cmp_ev rfl rfl ((gtI _ _ _).trans (congrArg some (decide_eq_decide.mpr (by omega))))
  show ∃ l A', finR ⟨A ++ B, b, e⟩ (evSs _ fFolkM.body [some (.loc p), some (.int (k : Int)), none, none, none] ⟨A ++ B, (A ++ B).length, false⟩) = _ ∧ _
  rw [go]
  cases hk0 : decide (0 < k) with
  | false =>
    refine ⟨l, A1, ?_, p1, ⟨q1.1, fun x hx => by have := q1.2 x hx; omega⟩, q4'⟩
    rw [seq_go (ifs_f (d := .bl false) (and_evF ((gt _).trans (by rw [hk0])) rfl) rfl rfl)]
    exact fin_loc
  | true =>
    have kpos := of_decide_eq_true hk0
    have tt := (gt ⟨A1 ++ (B ++ [.lst (l.map D.int)]), (A ++ B).length, false⟩).trans (by rw [hk0])
    obtain ⟨r, A2, t1, a1, b1, p2⟩ := take_ev ht n (m := .cst (.int 5)) (i := 0) (env := [some (.loc p), some (.int (k : Int)), some (.loc (A ++ B).length), some (.int v), x']) (B := B ++ [.lst (l.map D.int)]) (b := (A ++ B).length) (e := false) rfl rfl p1 (by decide) (by decide)
    have cq := cmp_ev (op := .eq) (b := .cst (.int 0)) (y := .int 0) (bv := decide (r = 0)) t1 rfl (eqI r 0 _)
    cases h0 : decide (r = 0) with
    | false =>
      rw [h0] at cq
      refine ⟨l, A2, ?_, p2, ⟨q1.1, fun x hx => by have := q1.2 x hx; omega⟩, q4'⟩
      rw [seq_go (ifs_f (and_ev tt rfl cq) rfl rfl)]
      exact fin_loc
    | true =>
      rw [h0] at cq
      have hv := q5 kpos
      obtain ⟨i, i1, i2, i3⟩ := idx_int v l hv
      have hm2 : (A ++ B).length = A2.length + B.length := by rw [List.length_append, p2.1, hp.1]
      have lo : lstOf (.loc (A ++ B).length) ⟨A2 ++ (B ++ [.lst (l.map D.int)]), (A ++ B).length, false⟩ = some (l.map D.int) := lst_end hm2
      have ix : bmeE .index false (.loc (A ++ B).length) [.int v] ⟨A2 ++ (B ++ [.lst (l.map D.int)]), (A ++ B).length, false⟩ = .ok (.int (i : Int)) ⟨A2 ++ (B ++ [.lst (l.map D.int)]), (A ++ B).length, false⟩ := by
        unfold bmeE
        rw [lo]
        dsimp only
        rw [i1]
      have rc : recv .index (.loc (A ++ B).length) ⟨A2 ++ (B ++ [.lst (l.map D.int)]), (A ++ B).length, false⟩ = true := by
        unfold recv
        rw [lo]
        rfl
      have pt := put_loc (s := ⟨A2 ++ (B ++ [.lst (l.map D.int)]), (A ++ B).length, false⟩) (i := (i : Int)) (k := i) (v := .int 1000000000) (at_end hm2) (by unfold ixPut; simp [i2]) rfl
      rw [set_end hm2] at pt
      have hs : (l.map D.int).set i (.int 1000000000) = (l.set i 1000000000).map D.int := by rw [List.map_set]
      rw [hs] at pt
      refine ⟨l.set i 1000000000, A2, ?_, p2, q1.top (by omega) q2, by rw [List.length_set, q4']⟩
      have as : evS ⟨run G (n + 1), G.fuel, none, G.sub⟩ (.asg [.ix (.var 2) (.bme .index false (.var 2) [.var 3])] (.cst (.int 1000000000))) [some (.loc p), some (.int (k : Int)), some (.loc (A ++ B).length), some (.int v), x'] ⟨A2 ++ (B ++ [.lst (l.map D.int)]), (A ++ B).length, false⟩ = .ok .next [some (.loc p), some (.int (k : Int)), some (.loc (A ++ B).length), some (.int v), x'] ⟨A2 ++ (B ++ [.lst ((l.set i 1000000000).map D.int)]), (A ++ B).length, false⟩ := by
        simp only [evS, evE, evEs, List.getElem?_cons_succ, List.getElem?_cons_zero, R.bind_ok, R.then_ok, asgTs, asgT, rc, ix, pt, if_true]
      rw [seq_go (ifs_t (and_ev tt rfl cq) rfl ((seq_go as).trans rfl))]
      exact fin_loc
/-! ears over houses that may change -/
def fEarsM : Fd := ⟨3, 6, [.asg [.nm 3] (.lst true []), .for (.nm 4) (.it (.var 1)) earB1, .ret (some (.var 3))]⟩
/-- a loop over a list that another loop walks -/
theorem for_lk {C : Ctx} {t : Tgt} {i f : Nat} {bd : List MS} {ds : List D} {env env' : Env} {s s' : Sto} {fl : Flow} (h : env[i]? = some (some (.loc f))) (hk : s.ob[f]? = some (.lk (.lst ds)))
    (q : forL (fun d env s => match bindT 3 t d s env with
        | some env => evSs C bd env s
        | none => .no) ds env s = .ok fl env' s') : evS C (.for t (.it (.var i)) bd) env s = .ok fl env' s' := by
  have v : view (.loc f) s = some (.lst ds) := by
    unfold view
    simp only [hk, Option.map_some, Ob.unlk]
  have e1 : evI C (.it (.var i)) env s = .ok (ds, [f]) s := by
    simp only [evI, evE, h, R.bind_ok]
    unfold itemsI
    rw [dct_V v, seq_V v]
    rfl
  have lk : lockAll [f] s = ([], s) := by
    unfold lockAll lock1
    simp only [hk]
    rfl
  simp only [evS, e1, R.then_ok, lk]
  erw [q]
  rfl
theorem earsM_out (G : Pg) (ht : G.fn "_law_take" = some fTake) (n : Nat) (p m i : Nat) (th : Int) (l : List Int) (N : Nat) (hN : N ≤ 100000) (B : List Ob) (b : Nat) (e : Bool) (hB : B[i]? = some (.lk (.lst (l.map D.int)))) (F : D → Env → Sto → RS)
    (hF : ∀ (a : Int) (x y : Option D) (s : Sto), F (.int a) [some (.loc p), some (.loc (p + 1 + i)), some (.int th), some (.loc m), x, y] s = evSs ⟨run G (n + 1), G.fuel, none, G.sub⟩ earB1 [some (.loc p), some (.loc (p + 1 + i)), some (.int th), some (.loc m), some (.int a), y] s) :
    ∀ (as : List Int) (x y : Option D) (es : List (Int × Int)) (A : List Ob), (∀ a ∈ as, a ∈ l) → (as.flatMap fun a => l.map fun c => (a, c)).Nodup → EarI l N es (as.flatMap fun a => l.map fun c => (a, c)) → PotP p A → m = A.length + B.length →
    ∃ es' A' x' y', forL F (as.map D.int) [some (.loc p), some (.loc (p + 1 + i)), some (.int th), some (.loc m), x, y] ⟨A ++ (B ++ [.lst (es.map tp2)]), b, e⟩ = .ok .next [some (.loc p), some (.loc (p + 1 + i)), some (.int th), some (.loc m), x', y'] ⟨A' ++ (B ++ [.lst (es'.map tp2)]), b, e⟩ ∧ PotP p A' ∧ EarI l N es' []
  | [], x, y, es, A, ha, hn, h, hp, hm => ⟨es, A, x, y, rfl, hp, h⟩
  | a :: as, x, y, es, A, ha, hn, h, hp, hm => by
    obtain ⟨es1, A1, y1, s1, q1, q2⟩ := ears_in G ht n p m (some (.loc (p + 1 + i))) th a l N hN (ha a List.mem_cons_self) B b e (fun d env s => match bindT 3 (.nm 5) d s env with
        | some env => evSs ⟨run G (n + 1), G.fuel, none, G.sub⟩ earB2 env s
        | none => .no) (fun c x s => rfl) l (as.flatMap fun a => l.map fun c => (a, c)) y es A (fun c hc => hc) hn h hp hm
    obtain ⟨es2, A2, x2, y2, s2, w1, w2⟩ := earsM_out G ht n p m i th l N hN B b e hB F hF as (some (.int a)) y1 es1 A1 (fun z hz => ha z (List.mem_cons_of_mem _ hz)) (List.nodup_append.mp hn).2.1 q2 q1 (by rw [q1.1, ← hp.1]; exact hm)
    refine ⟨es2, A2, x2, y2, ?_, w1, w2⟩
    show (match F (.int a) [some (.loc p), some (.loc (p + 1 + i)), some (.int th), some (.loc m), x, y] ⟨A ++ (B ++ [.lst (es.map tp2)]), b, e⟩ with | .ok .next env s => forL F (as.map D.int) env s | r => r) = _
    rw [hF]
    have hi : i < B.length := (List.getElem?_eq_some_iff.mp hB).1
    have st : evSs ⟨run G (n + 1), G.fuel, none, G.sub⟩ earB1 [some (.loc p), some (.loc (p + 1 + i)), some (.int th), some (.loc m), some (.int a), y] ⟨A ++ (B ++ [.lst (es.map tp2)]), b, e⟩ = .ok .next [some (.loc p), some (.loc (p + 1 + i)), some (.int th), some (.loc m), some (.int a), y1] ⟨A1 ++ (B ++ [.lst (es1.map tp2)]), b, e⟩ := by
      unfold earB1
      rw [seq_cons, for_lk rfl ((getB hp.1).trans ((List.getElem?_append_left hi).trans hB)) s1]
      rfl
    rw [st]
    exact s2
theorem earsM_run (G : Pg) (h : G.fn "_law_ears" = some fEarsM) (ht : G.fn "_law_take" = some fTake) (n p i : Nat) (l : List Int) (th : Int) (A B : List Ob) (b : Nat) (e : Bool) (hp : PotP p A) (hB : B[i]? = some (.lst (l.map D.int))) (hl : l.length ≤ 100) (hn : l.Nodup) :
    ∃ (es : List (Int × Int)) (A' : List Ob), run G (n + 2) "_law_ears" [.loc p, .loc (p + 1 + i), .int th] ⟨A ++ B, b, e⟩ = .ok (.loc (A ++ B).length) ⟨A' ++ (B ++ [.lst (es.map tp2)]), b, e⟩ ∧ PotP p A' ∧ EarL l es ∧ es.length ≤ 10000 := by
  rw [run_eq G (n + 1) _ _ h _ _ rfl (by decide)]
  have ln : l.length * l.length ≤ 10000 := Nat.mul_le_mul hl hl
  have hi : i < B.length := (List.getElem?_eq_some_iff.mp hB).1
  have I0 : EarI l 10000 [] (l.flatMap fun a => l.map fun c => (a, c)) := ⟨List.nodup_nil, fun q hq => (nomatch hq), fun q hq => (nomatch hq), by rw [grid_len]; simpa using ln⟩
  obtain ⟨es, A1, x1, y1, s1, p1, q1⟩ := earsM_out G ht n p (A ++ B).length i th l 10000 (by decide) (B.set i (.lk (.lst (l.map D.int)))) (A ++ B).length false (List.getElem?_set_self hi) (fun d env s => match bindT 3 (.nm 4) d s env with
        | some env => evSs ⟨run G (n + 1), G.fuel, none, G.sub⟩ earB1 env s
        | none => .no) (fun a x y s => rfl) l none none [] A (fun a ha => ha) (grid_nodup hn hn) I0 hp (by rw [List.length_append, List.length_set])
  refine ⟨es, A1, ?_, p1, ⟨q1.nd, q1.mem⟩, by have := q1.len; simpa using this⟩
  have rp : ([D.loc p, D.loc (p + 1 + i), D.int th].map some ++ List.replicate (fEarsM.ns - fEarsM.np) (none : Option D)) = [some (.loc p), some (.loc (p + 1 + i)), some (.int th), none, none, none] := rfl
  rw [rp]
  have setL : ∀ (A' : List Ob) (o1 o2 : Ob), A'.length = p + 1 → (A' ++ (B ++ [o1])).set (p + 1 + i) o2 = A' ++ (B.set i o2 ++ [o1]) := fun A' o1 o2 hA' => by
    rw [setB hA', List.set_append_left _ _ hi]
  have fo : evS ⟨run G (n + 1), G.fuel, none, G.sub⟩ (.for (.nm 4) (.it (.var 1)) earB1) [some (.loc p), some (.loc (p + 1 + i)), some (.int th), some (.loc (A ++ B).length), none, none] ⟨A ++ (B ++ [.lst []]), (A ++ B).length, false⟩ = .ok .next [some (.loc p), some (.loc (p + 1 + i)), some (.int th), some (.loc (A ++ B).length), x1, y1] ⟨A1 ++ (B ++ [.lst (es.map tp2)]), (A ++ B).length, false⟩ := by
    have g0 : (A ++ (B ++ [Ob.lst []]))[p + 1 + i]? = some (.lst (l.map D.int)) := (getB hp.1).trans ((List.getElem?_append_left hi).trans hB)
    have v : view (.loc (p + 1 + i)) ⟨A ++ (B ++ [Ob.lst []]), (A ++ B).length, false⟩ = some (.lst (l.map D.int)) := by
      unfold view
      simp only [g0, Option.map_some, Ob.unlk]
    have e1 : evI ⟨run G (n + 1), G.fuel, none, G.sub⟩ (.it (.var 1)) [some (.loc p), some (.loc (p + 1 + i)), some (.int th), some (.loc (A ++ B).length), none, none] ⟨A ++ (B ++ [.lst []]), (A ++ B).length, false⟩ = .ok (l.map D.int, [p + 1 + i]) ⟨A ++ (B ++ [.lst []]), (A ++ B).length, false⟩ := by
      simp only [evI, evE, List.getElem?_cons_succ, List.getElem?_cons_zero, R.bind_ok]
      unfold itemsI
      rw [dct_V v, seq_V v]
      rfl
    have lk := lock_set (b := (A ++ B).length) (e := false) g0 (fun z q => by cases q)
    rw [setL A _ _ hp.1] at lk
    simp only [evS, e1, R.then_ok, lk]
    erw [s1]
    show RS.ok Flow.next _ (unlockAll [p + 1 + i] ⟨A1 ++ (B.set i (.lk (.lst (l.map D.int))) ++ [.lst (es.map tp2)]), (A ++ B).length, false⟩) = _
    have g1 : (A1 ++ (B ++ [Ob.lst (es.map tp2)]))[p + 1 + i]? = some (.lst (l.map D.int)) := (getB p1.1).trans ((List.getElem?_append_left hi).trans hB)
    have ul := unlock_set (b := (A ++ B).length) (e := false) g1
    rw [setL A1 _ _ p1.1] at ul
    rw [ul]
  have go : evSs ⟨run G (n + 1), G.fuel, none, G.sub⟩ fEarsM.body [some (.loc p), some (.loc (p + 1 + i)), some (.int th), none, none, none] ⟨A ++ B, (A ++ B).length, false⟩ = .ok (.ret (.loc (A ++ B).length)) [some (.loc p), some (.loc (p + 1 + i)), some (.int th), some (.loc (A ++ B).length), x1, y1] ⟨A1 ++ (B ++ [.lst (es.map tp2)]), (A ++ B).length, false⟩ := by
    show evSs _ (_ :: _ :: [_]) _ _ = _
    rw [seq_go new_ev]
    simp only [List.set_cons_succ, List.set_cons_zero]
    rw [seq_go fo]
    rfl
  show finR ⟨A ++ B, b, e⟩ (evSs _ fEarsM.body _ ⟨A ++ B, (A ++ B).length, false⟩) = _
  rw [go]
  exact fin_loc
theorem strangerV_run (G : Pg) (h : G.fn "_law_stranger" = some fStranger) (ht : G.fn "_law_take" = some fTake) (n p : Nat) (fd : D) (l : List Int) (A B : List Ob) (b : Nat) (e : Bool) (hp : PotP p A) (hin : ∀ (A' : List Ob) (b : Nat) (e : Bool) (x : Int), A'.length = p + 1 → cmp .isin (.int x) fd ⟨A' ++ B, b, e⟩ = some (decide (x ∈ l))) (hl : l.length < G.fuel) :
    ∃ r A', run G (n + 2) "_law_stranger" [.loc p, fd] ⟨A ++ B, b, e⟩ = .ok (.int r) ⟨A' ++ B, b, e⟩ ∧ PotP p A' ∧ r ∉ l ∧ 1 ≤ r := by
  rw [run_eq G (n + 1) _ _ h _ _ rfl (by decide)]
  obtain ⟨r1, A1, t1, a1, b1, p1⟩ := take_ev ht n (m := .cst (.int 5)) (i := 0) (env := [some (.loc p), some fd, none]) (B := B) (b := (A ++ B).length) (e := false) rfl rfl hp (by decide) (by decide)
  obtain ⟨m1, x1, y1, z1⟩ := pick5 1 2 900000000 5 77 a1 b1 900000000 (by decide) (by decide) (by decide) (by decide) (by decide)
  obtain ⟨r, q1, q2, q3⟩ := strange_loop ⟨run G (n + 1), G.fuel, none, G.sub⟩ (some (.loc p)) (some fd) l ⟨A1 ++ B, (A ++ B).length, false⟩ (fun x => cmp_ev rfl rfl (hin A1 _ _ x p1.1)) G.fuel m1 (Nat.lt_of_le_of_lt (List.length_filter_le _ _) hl)
  refine ⟨r, A1, ?_, p1, q2, by omega⟩
  have e0 : evS ⟨run G (n + 1), G.fuel, none, G.sub⟩ (.asg [.nm 2] (.idx (.lst false [.cst (.int 1), .cst (.int 2), .cst (.int 900000000), .cst (.int 5), .cst (.int 77)]) (.call "_law_take" [.var 0, .cst (.int 5)] [] [] [.pos 0, .pos 1]))) [some (.loc p), some fd, none] ⟨A ++ B, (A ++ B).length, false⟩ = .ok .next [some (.loc p), some fd, some (.int m1)] ⟨A1 ++ B, (A ++ B).length, false⟩ :=
    asg_ev (idx_ev (x := .frz (.lst [.int 1, .int 2, .int 900000000, .int 5, .int 77])) (lst_ev rfl (by show 5 ≤ 16777216; decide)) t1 x1)
  have go : evSs ⟨run G (n + 1), G.fuel, none, G.sub⟩ fStranger.body [some (.loc p), some fd, none] ⟨A ++ B, (A ++ B).length, false⟩ = .ok (.ret (.int r)) [some (.loc p), some fd, some (.int r)] ⟨A1 ++ B, (A ++ B).length, false⟩ := by
    show evSs _ (_ :: _ :: [_]) _ _ = _
    rw [seq_go e0, seq_cons]
    simp only [evS]
    erw [q1]
    rfl
  show finR ⟨A ++ B, b, e⟩ (evSs _ fStranger.body [some (.loc p), some fd, none] ⟨A ++ B, (A ++ B).length, false⟩) = _
  rw [go]
  have := fin_drop (A := A) (B := B) (A' := A1) (X := []) (b := b) (e := e) (d := .int r) (env := [some (.loc p), some fd, some (.int r)]) rfl (by rw [p1.1, hp.1])
  rw [List.append_nil] at this
  exact this
end Fn

set_option linter.all false
set_option maxRecDepth 100000
set_option maxHeartbeats 1000000
namespace Fn
/-! P27: k07: what is due, faults, the law. -/
def sTooMany : List Nat := [84, 111, 111, 77, 97, 110, 121]
def sBad : List Nat := [66, 97, 100, 78, 117, 109, 98, 101, 114]
def sTwice : List Nat := [84, 119, 105, 99, 101]
def sNoHouse : List Nat := [78, 111, 72, 111, 117, 115, 101]
def sNone : List Nat := [110, 111, 110, 101]
def ws7 : List (String × List Nat × List String) := [("NoHouse", [78, 111, 72, 111, 117, 115, 101], ["house"]), ("Twice", [84, 119, 105, 99, 101], ["house"]), ("NoEar", [78, 111, 69, 97, 114], ["speaker", "listener"]), ("BadNumber", [66, 97, 100, 78, 117, 109, 98, 101, 114], []), ("TooMany", [84, 111, 111, 77, 97, 110, 121], ["bound"]), ("AirError", [65, 105, 114, 69, 114, 114, 111, 114], [])]
def due7a : List MS := [.ifs (.or (.cmp .lt (.var 3) (.cst (.int 1))) (.cmp .gt (.var 3) (.cst (.int 1000000000)))) [.ret (some (.tup [.cst (.str [66, 97, 100, 78, 117, 109, 98, 101, 114])]))] [], .ifs (.cmp .isin (.var 3) (.slc false (.var 0) none (some (.var 2)))) [.ret (some (.tup [.cst (.str [84, 119, 105, 99, 101]), .var 3]))] []]
def due7b : List MS := [.ifs (.cmp .notin (.var 4) (.var 0)) [.ret (some (.tup [.cst (.str [78, 111, 72, 111, 117, 115, 101]), .var 4]))] [], .ifs (.cmp .notin (.var 5) (.var 0)) [.ret (some (.tup [.cst (.str [78, 111, 72, 111, 117, 115, 101]), .var 5]))] [], .ifs (.cmp .eq (.var 4) (.var 5)) [.ret (some (.tup [.cst (.str [78, 111, 69, 97, 114]), .var 4, .var 5]))] []]
def fDue7 : Fd := ⟨2, 6, [
    .ifs (.cmp .gt (.blt .len false [.var 0]) (.cst (.int 40))) [.ret (some (.tup [.cst (.str [84, 111, 111, 77, 97, 110, 121]), .cst (.int 40)]))] [],
    .for (.tp [.nm 2, .nm 3]) (.enum (.var 0)) due7a,
    .for (.tp [.nm 4, .nm 5]) (.it (.var 1)) due7b,
    .ret (some (.tup [.cst (.str [110, 111, 110, 101])]))]⟩
/-- what is told of the refusals of houses, of ears -/
def dueH (done : List Int) : List Int → Option D
  | [] => none
  | x :: r => if 1 ≤ x ∧ x ≤ 1000000000 then if x ∈ done then some (.tup [.str sTwice, .int x]) else dueH (done ++ [x]) r else some (.tup [.str sBad])
def dueE1 (hs : List Int) (x y : Int) : Option D := if x ∈ hs then if y ∈ hs then if x = y then some (.tup [.str sNoEar, .int x, .int y]) else none else some (.tup [.str sNoHouse, .int y]) else some (.tup [.str sNoHouse, .int x])
def dueF (hs : List Int) (es : List (Int × Int)) : D := if 40 < hs.length then .tup [.str sTooMany, .int 40] else match dueH [] hs with
  | some d => d
  | none => (es.findSome? fun q => dueE1 hs q.1 q.2).getD (.tup [.str sNone])
/-- it is what the teller tells -/
structure Tells (G : Pg) : Prop where
  a1 : G.sub "NoHouse" "NoHouse" = true
  b1 : G.sub "Twice" "NoHouse" = false
  b2 : G.sub "Twice" "Twice" = true
  c1 : G.sub "NoEar" "NoHouse" = false
  c2 : G.sub "NoEar" "Twice" = false
  c3 : G.sub "NoEar" "NoEar" = true
  d1 : G.sub "BadNumber" "NoHouse" = false
  d2 : G.sub "BadNumber" "Twice" = false
  d3 : G.sub "BadNumber" "NoEar" = false
  d4 : G.sub "BadNumber" "BadNumber" = true
  e1 : G.sub "TooMany" "NoHouse" = false
  e2 : G.sub "TooMany" "Twice" = false
  e3 : G.sub "TooMany" "NoEar" = false
  e4 : G.sub "TooMany" "BadNumber" = false
  e5 : G.sub "TooMany" "TooMany" = true
section
variable {G : Pg}
theorem w_house (t : Tells G) (x : Int) : whyH G.sub ws7 (noHouse x) = some (.tup [.str sNoHouse, .int x]) := by
  simp only [ws7, whyH, noHouse, t.a1, if_true]; rfl
theorem w_twice (t : Tells G) (x : Int) : whyH G.sub ws7 ⟨"Twice", [("house", .int x)]⟩ = some (.tup [.str sTwice, .int x]) := by
  simp only [ws7, whyH, t.b1, t.b2, if_true]; rfl
theorem w_ear (t : Tells G) (x y : Int) : whyH G.sub ws7 ⟨"NoEar", [("speaker", .int x), ("listener", .int y)]⟩ = some (.tup [.str sNoEar, .int x, .int y]) := by
  simp only [ws7, whyH, t.c1, t.c2, t.c3, if_true]; rfl
theorem w_bad (t : Tells G) : whyH G.sub ws7 ⟨"BadNumber", []⟩ = some (.tup [.str sBad]) := by
  simp only [ws7, whyH, t.d1, t.d2, t.d3, t.d4, if_true]; rfl
theorem w_many (t : Tells G) : whyH G.sub ws7 ⟨"TooMany", [("bound", .int 40)]⟩ = some (.tup [.str sTooMany, .int 40]) := by
  simp only [ws7, whyH, t.e1, t.e2, t.e3, t.e4, t.e5, if_true]; rfl
theorem dueH_tells (t : Tells G) : ∀ (r done : List Int), match houseX done r with
    | none => dueH done r = none
    | some x => ∃ d, dueH done r = some d ∧ whyH G.sub ws7 x = some d
  | [], done => rfl
  | x :: r, done => by
    unfold houseX dueH
    by_cases h1 : 1 ≤ x ∧ x ≤ 1000000000
    · rw [if_pos h1, if_pos h1]
      by_cases h2 : x ∈ done
      · rw [if_pos h2, if_pos h2]
        exact ⟨_, rfl, w_twice t x⟩
      · rw [if_neg h2, if_neg h2]
        exact dueH_tells t r _
    · rw [if_neg h1, if_neg h1]
      exact ⟨_, rfl, w_bad t⟩
theorem dueE_tells (t : Tells G) (hs : List Int) : ∀ es : List (Int × Int), match earsX hs es with
    | none => (es.findSome? fun q => dueE1 hs q.1 q.2) = none
    | some x => ∃ d, (es.findSome? fun q => dueE1 hs q.1 q.2) = some d ∧ whyH G.sub ws7 x = some d
  | [] => rfl
  | q :: es => by
    have ih := dueE_tells t hs es
    unfold earsX
    rw [List.findSome?_cons]
    unfold earX dueE1
    by_cases h1 : q.1 ∈ hs
    · rw [if_pos h1, if_pos h1]
      by_cases h2 : q.2 ∈ hs
      · rw [if_pos h2, if_pos h2]
        by_cases h3 : q.1 = q.2
        · rw [if_pos h3, if_pos h3]
          exact ⟨_, rfl, w_ear t _ _⟩
        · rw [if_neg h3, if_neg h3]
          exact ih
      · rw [if_neg h2, if_neg h2]
        exact ⟨_, rfl, w_house t _⟩
    · rw [if_neg h1, if_neg h1]
      exact ⟨_, rfl, w_house t _⟩
theorem dueF_tells (t : Tells G) (hs : List Int) (es : List (Int × Int)) : match fieldX hs es with
    | none => dueF hs es = .tup [.str sNone]
    | some x => whyH G.sub ws7 x = some (dueF hs es) := by
  unfold fieldX dueF
  by_cases h : 40 < hs.length
  · rw [if_pos h, if_pos h]
    exact w_many t
  · rw [if_neg h, if_neg h]
    have q := dueH_tells t hs []
    cases hx : houseX [] hs with
    | some x =>
      rw [hx] at q
      obtain ⟨d, e, w⟩ := q
      rw [e]
      exact w
    | none =>
      rw [hx] at q
      dsimp only at q
      rw [q]
      have q2 := dueE_tells t hs es
      cases hy : earsX hs es with
      | some x =>
        rw [hy] at q2
        obtain ⟨d, e, w⟩ := q2
        rw [e]
        exact w
      | none =>
        rw [hy] at q2
        dsimp only at q2
        rw [q2]
        rfl
end
theorem dueH_sdat : ∀ (r done : List Int) (d : D), dueH done r = some d → sdat 1 d = true ∧ d.lf = true
  | [], done, d, h => by cases h
  | x :: r, done, d, h => by
    unfold dueH at h
    split at h
    · split at h
      · cases h; exact ⟨rfl, rfl⟩
      · exact dueH_sdat r _ d h
    · cases h; exact ⟨rfl, rfl⟩
theorem dueF_sdat (hs : List Int) (es : List (Int × Int)) : sdat 1 (dueF hs es) = true ∧ (dueF hs es).lf = true := by
  unfold dueF
  split
  · exact ⟨rfl, rfl⟩
  · split
    · rename_i d hd
      exact dueH_sdat _ _ _ hd
    · cases h : es.findSome? fun q => dueE1 hs q.1 q.2 with
      | none => exact ⟨rfl, rfl⟩
      | some d =>
        obtain ⟨q, _, hq⟩ := List.exists_of_findSome?_eq_some h
        unfold dueE1 at hq
        split at hq
        · split at hq
          · split at hq
            · cases hq; exact ⟨rfl, rfl⟩
            · cases hq
          · cases hq; exact ⟨rfl, rfl⟩
        · cases hq; exact ⟨rfl, rfl⟩
/-! loops over lists at their places -/
def ansR (o : Option D) (env : Env) (s : Sto) : RS := match o with
  | none => .ok .next env s
  | some d => .ok (.ret d) env s
theorem forL_ans {α : Type} (F : D → Env → Sto → RS) (g : α → D) (f : α → Option D) (I : Env → Prop) (s : Sto) (xs : List α) (env : Env) (h : ∀ x ∈ xs, ∀ env, I env → ∃ env', F (g x) env s = (match f x with | none => .ok .next env' s | some d => .ok (.ret d) env' s) ∧ I env') (hi : I env) :
    ∃ env', forL F (xs.map g) env s = ansR (xs.findSome? f) env' s ∧ I env' := by
  obtain ⟨e, q, i⟩ := forL_some F g f I s xs env h hi
  refine ⟨e, ?_, i⟩
  rw [q]
  cases xs.findSome? f <;> rfl
theorem for_locE {C : Ctx} {t : Tgt} {i f : Nat} {bd : List MS} {ds : List D} {env env' : Env} {s : Sto} {o : Option D} (h : env[i]? = some (some (.loc f))) (hk : s.ob[f]? = some (.lst ds))
    (q : forL (fun d env s => match bindT 3 t d s env with
        | some env => evSs C bd env s
        | none => .no) (ds.zipIdx.map fun p => D.tup [.int (p.2 : Int), p.1]) env { s with ob := s.ob.set f (.lk (.lst ds)) } = ansR o env' { s with ob := s.ob.set f (.lk (.lst ds)) }) :
    evS C (.for t (.enum (.var i)) bd) env s = ansR o env' s := by
  have v : view (.loc f) s = some (.lst ds) := by
    unfold view
    simp only [hk, Option.map_some, Ob.unlk]
  have e1 : evI C (.enum (.var i)) env s = .ok (ds.zipIdx.map (fun p => D.tup [.int (p.2 : Int), p.1]), [f]) s := by
    simp only [evI, evE, h, R.bind_ok, lst_V v]
    rfl
  have lk := lock_set (b := s.base) (e := s.esc) hk (fun z q => by cases q)
  have ul := unlock_set (b := s.base) (e := s.esc) hk
  have lk' : lockAll [f] s = ([f], { s with ob := s.ob.set f (.lk (.lst ds)) }) := lk
  cases o with
  | none =>
    simp only [evS, e1, R.then_ok, lk']
    erw [q]
    exact congrArg (RS.ok _ _) ul
  | some d =>
    simp only [evS, e1, R.then_ok, lk']
    erw [q]
    exact congrArg (RS.ok _ _) ul
theorem for_locI {C : Ctx} {t : Tgt} {i f : Nat} {bd : List MS} {ds : List D} {env env' : Env} {s : Sto} {o : Option D} (h : env[i]? = some (some (.loc f))) (hk : s.ob[f]? = some (.lst ds))
    (q : forL (fun d env s => match bindT 3 t d s env with
        | some env => evSs C bd env s
        | none => .no) ds env { s with ob := s.ob.set f (.lk (.lst ds)) } = ansR o env' { s with ob := s.ob.set f (.lk (.lst ds)) }) :
    evS C (.for t (.it (.var i)) bd) env s = ansR o env' s := by
  have v : view (.loc f) s = some (.lst ds) := by
    unfold view
    simp only [hk, Option.map_some, Ob.unlk]
  have e1 : evI C (.it (.var i)) env s = .ok (ds, [f]) s := by
    simp only [evI, evE, h, R.bind_ok]
    unfold itemsI
    rw [dct_V v, seq_V v]
    rfl
  have lk := lock_set (b := s.base) (e := s.esc) hk (fun z q => by cases q)
  have ul := unlock_set (b := s.base) (e := s.esc) hk
  have lk' : lockAll [f] s = ([f], { s with ob := s.ob.set f (.lk (.lst ds)) }) := lk
  cases o with
  | none =>
    simp only [evS, e1, R.then_ok, lk']
    erw [q]
    exact congrArg (RS.ok _ _) ul
  | some d =>
    simp only [evS, e1, R.then_ok, lk']
    erw [q]
    exact congrArg (RS.ok _ _) ul
theorem or_evT {C : Ctx} {a b : ME} {env : Env} {s s1 : Sto} {x : D} (ha : evE C a env s = .ok x s1) (ht : truth x s1 = some true) : evE C (.or a b) env s = .ok x s1 := by
  simp only [evE, ha, R.bind_ok, ht]
theorem cut_take {α : Type} (l : List α) (k : Nat) : cutL l none (some (k : Int)) = l.take k := by
  unfold cutL cutAt
  dsimp only
  rw [if_neg (by omega), List.drop_zero, Nat.sub_zero, Int.toNat_natCast]
  by_cases h : k ≤ l.length
  · rw [Nat.min_eq_left h]
  · rw [Nat.min_eq_right (by omega), List.take_of_length_le (Nat.le_refl _), List.take_of_length_le (by omega)]
def stepH (hs : List Int) (p : Int × Nat) : Option D := if 1 ≤ p.1 ∧ p.1 ≤ 1000000000 then if p.1 ∈ hs.take p.2 then some (.tup [.str sTwice, .int p.1]) else none else some (.tup [.str sBad])
theorem stepH_all (hs : List Int) : ∀ (r done : List Int), hs = done ++ r → (r.zipIdx done.length).findSome? (stepH hs) = dueH done r
  | [], done, _ => rfl
  | x :: r, done, h => by
    rw [List.zipIdx_cons, List.findSome?_cons]
    unfold dueH
    have tk : hs.take done.length = done := by rw [h, List.take_left]
    have ih := stepH_all hs r (done ++ [x]) (by rw [h]; simp)
    rw [List.length_append] at ih
    unfold stepH
    dsimp only
    rw [tk]
    by_cases h1 : 1 ≤ x ∧ x ≤ 1000000000
    · rw [if_pos h1, if_pos h1]
      by_cases h2 : x ∈ done
      · rw [if_pos h2, if_pos h2]
      · rw [if_neg h2, if_neg h2]
        exact ih
    · rw [if_neg h1, if_neg h1]
theorem due7_run (G : Pg) (h : G.fn "_law_due" = some fDue7) (n f g : Nat) (hs : List Int) (es : List (Int × Int)) (s : Sto) (hne : f ≠ g) (hf : s.ob[f]? = some (.lst (hs.map D.int))) (hg : s.ob[g]? = some (.lst (es.map tp2))) :
    run G (n + 1) "_law_due" [.loc f, .loc g] s = .ok (dueF hs es) s := by
  rw [run_eq G n _ _ h _ _ rfl (by decide)]
  have rp : ([D.loc f, D.loc g].map some ++ List.replicate (fDue7.ns - fDue7.np) (none : Option D)) = [some (.loc f), some (.loc g), none, none, none, none] := rfl
  rw [rp]
  have vw : ∀ {ob : List Ob} {b : Nat} {e : Bool}, (ob[f]? = some (.lst (hs.map D.int)) ∨ ob[f]? = some (.lk (.lst (hs.map D.int)))) → view (.loc f) ⟨ob, b, e⟩ = some (.lst (hs.map D.int)) := fun {ob b e} h => by
    unfold view
    rcases h with h | h <;> simp only [h, Option.map_some, Ob.unlk]
  have lf : f < s.ob.length := (List.getElem?_eq_some_iff.mp hf).1
  have v0 := vw (b := s.ob.length) (e := false) (.inl hf)
  have ob1 : (s.ob.set f (.lk (.lst (hs.map D.int))))[f]? = some (.lk (.lst (hs.map D.int))) := List.getElem?_set_self lf
  have v1 := vw (b := s.ob.length) (e := false) (.inr ob1)
  have ob2 : (s.ob.set g (.lk (.lst (es.map tp2))))[f]? = some (.lst (hs.map D.int)) := (List.getElem?_set_ne hne.symm).trans hf
  have v2 := vw (b := s.ob.length) (e := false) (.inl ob2)
  have cgt : evE ⟨run G n, G.fuel, none, G.sub⟩ (.cmp .gt (.blt .len false [.var 0]) (.cst (.int 40))) [some (.loc f), some (.loc g), none, none, none, none] ⟨s.ob, s.ob.length, false⟩ = .ok (.bl (decide (40 < hs.length))) ⟨s.ob, s.ob.length, false⟩ := by
    refine cmp_ev (x := .int (hs.length : Int)) (y := .int 40) (s1 := ⟨s.ob, s.ob.length, false⟩) ?_ rfl ((gtI _ _ _).trans (congrArg some (decide_eq_decide.mpr (by omega))))
    have := len_V v0
    rw [List.length_map] at this
    simp only [evE, evEs, List.getElem?_cons_zero, R.bind_ok, this]
  have go : ∃ env', evSs ⟨run G n, G.fuel, none, G.sub⟩ fDue7.body [some (.loc f), some (.loc g), none, none, none, none] ⟨s.ob, s.ob.length, false⟩ = .ok (.ret (dueF hs es)) env' ⟨s.ob, s.ob.length, false⟩ := by
    show ∃ env', evSs _ (_ :: _ :: _ :: [_]) _ _ = _
    unfold dueF
    by_cases h40 : 40 < hs.length
    · rw [decide_eq_true h40] at cgt
      rw [if_pos h40]
      exact ⟨_, (seq_cons _ _ _ _ _).trans (by rw [ifs_t cgt rfl rfl]; rfl)⟩
    · rw [decide_eq_false h40] at cgt
      rw [if_neg h40]
      rw [seq_go (ifs_f cgt rfl rfl)]
      obtain ⟨env1, q1, x2, x3, rfl⟩ := forL_ans (fun d env s => match bindT 3 (.tp [.nm 2, .nm 3]) d s env with
          | some env => evSs ⟨run G n, G.fuel, none, G.sub⟩ due7a env s
          | none => .no) (fun p : Int × Nat => D.tup [.int (p.2 : Int), .int p.1]) (stepH hs) (fun env => ∃ x2 x3, env = [some (.loc f), some (.loc g), x2, x3, none, none]) ⟨s.ob.set f (.lk (.lst (hs.map D.int))), s.ob.length, false⟩ hs.zipIdx [some (.loc f), some (.loc g), none, none, none, none] (fun p hp env hi => by
        obtain ⟨x2, x3, rfl⟩ := hi
        obtain ⟨x, k⟩ := p
        refine ⟨[some (.loc f), some (.loc g), some (.int (k : Int)), some (.int x), none, none], ?_, _, _, rfl⟩
        show evSs _ due7a [some (.loc f), some (.loc g), some (.int (k : Int)), some (.int x), none, none] _ = _
        unfold due7a stepH
        dsimp only
        have c1 : evE ⟨run G n, G.fuel, none, G.sub⟩ (.cmp .lt (.var 3) (.cst (.int 1))) [some (.loc f), some (.loc g), some (.int (k : Int)), some (.int x), none, none] ⟨s.ob.set f (.lk (.lst (hs.map D.int))), s.ob.length, false⟩ = .ok (.bl (decide (x < 1))) ⟨s.ob.set f (.lk (.lst (hs.map D.int))), s.ob.length, false⟩ := cmp_ev rfl rfl (ltI _ _ _)
        have c2 : evE ⟨run G n, G.fuel, none, G.sub⟩ (.cmp .gt (.var 3) (.cst (.int 1000000000))) [some (.loc f), some (.loc g), some (.int (k : Int)), some (.int x), none, none] ⟨s.ob.set f (.lk (.lst (hs.map D.int))), s.ob.length, false⟩ = .ok (.bl (decide (1000000000 < x))) ⟨s.ob.set f (.lk (.lst (hs.map D.int))), s.ob.length, false⟩ := cmp_ev rfl rfl (gtI _ _ _)
        by_cases h1 : 1 ≤ x ∧ x ≤ 1000000000
        · rw [decide_eq_false (by omega : ¬ x < 1)] at c1
          rw [decide_eq_false (by omega : ¬ 1000000000 < x)] at c2
          rw [if_pos h1, seq_go (ifs_f (or_evF c1 rfl c2) rfl rfl)]
          have c3 : evE ⟨run G n, G.fuel, none, G.sub⟩ (.cmp .isin (.var 3) (.slc false (.var 0) none (some (.var 2)))) [some (.loc f), some (.loc g), some (.int (k : Int)), some (.int x), none, none] ⟨s.ob.set f (.lk (.lst (hs.map D.int))), s.ob.length, false⟩ = .ok (.bl (decide (x ∈ hs.take k))) ⟨s.ob.set f (.lk (.lst (hs.map D.int))), s.ob.length, false⟩ := by
            refine cmp_ev (x := .int x) (y := .frz (.lst ((hs.take k).map D.int))) (s1 := ⟨s.ob.set f (.lk (.lst (hs.map D.int))), s.ob.length, false⟩) rfl ?_ (isin_frz _ _ _)
            have sl := slc_V v1 none (some (k : Int))
            rw [cutL_map, cut_take] at sl
            simp only [evE, evO, List.getElem?_cons_succ, List.getElem?_cons_zero, R.bind_ok, sl]
          by_cases h2 : x ∈ hs.take k
          · rw [decide_eq_true h2] at c3
            rw [if_pos h2, seq_cons, ifs_t c3 rfl rfl]
            rfl
          · rw [decide_eq_false h2] at c3
            rw [if_neg h2, seq_go (ifs_f c3 rfl rfl)]
            rfl
        · rw [if_neg h1]
          by_cases h3 : x < 1
          · rw [decide_eq_true h3] at c1
            rw [seq_cons, ifs_t (or_evT c1 rfl) rfl rfl]
            rfl
          · rw [decide_eq_false h3] at c1
            rw [decide_eq_true (by omega : 1000000000 < x)] at c2
            rw [seq_cons, ifs_t (or_evF c1 rfl c2) rfl rfl]
            rfl) ⟨none, none, rfl⟩
      have st := stepH_all hs hs [] rfl
      rw [show hs.zipIdx = hs.zipIdx ([] : List Int).length from rfl, st] at q1
      have ze : ((hs.map D.int).zipIdx.map fun p => D.tup [.int (p.2 : Int), p.1]) = (hs.zipIdx ([] : List Int).length).map fun p : Int × Nat => D.tup [.int (p.2 : Int), .int p.1] := by
        rw [List.zipIdx_map, List.map_map]
        rfl
      have fo := for_locE (C := ⟨run G n, G.fuel, none, G.sub⟩) (t := .tp [.nm 2, .nm 3]) (i := 0) (bd := due7a) (ds := hs.map D.int) (env := [some (.loc f), some (.loc g), none, none, none, none]) (env' := [some (.loc f), some (.loc g), x2, x3, none, none]) (s := ⟨s.ob, s.ob.length, false⟩) (o := dueH [] hs) rfl hf (by rw [ze]; exact q1)
      cases hd : dueH [] hs with
      | some d =>
        rw [hd] at fo
        exact ⟨_, (seq_cons _ _ _ _ _).trans (by rw [fo]; rfl)⟩
      | none =>
        rw [hd] at fo
        rw [seq_go fo]
        obtain ⟨env2, q2, x4, x5, rfl⟩ := forL_ans (fun d env s => match bindT 3 (.tp [.nm 4, .nm 5]) d s env with
            | some env => evSs ⟨run G n, G.fuel, none, G.sub⟩ due7b env s
            | none => .no) tp2 (fun q => dueE1 hs q.1 q.2) (fun env => ∃ x4 x5, env = [some (.loc f), some (.loc g), x2, x3, x4, x5]) ⟨s.ob.set g (.lk (.lst (es.map tp2))), s.ob.length, false⟩ es [some (.loc f), some (.loc g), x2, x3, none, none] (fun q hq env hi => by
          obtain ⟨x4, x5, rfl⟩ := hi
          refine ⟨[some (.loc f), some (.loc g), x2, x3, some (.int q.1), some (.int q.2)], ?_, _, _, rfl⟩
          show evSs _ due7b [some (.loc f), some (.loc g), x2, x3, some (.int q.1), some (.int q.2)] _ = _
          unfold due7b dueE1
          have c1 : evE ⟨run G n, G.fuel, none, G.sub⟩ (.cmp .notin (.var 4) (.var 0)) [some (.loc f), some (.loc g), x2, x3, some (.int q.1), some (.int q.2)] ⟨s.ob.set g (.lk (.lst (es.map tp2))), s.ob.length, false⟩ = .ok (.bl (!decide (q.1 ∈ hs))) ⟨s.ob.set g (.lk (.lst (es.map tp2))), s.ob.length, false⟩ := cmp_ev rfl rfl (notin_V v2 _)
          have c2 : evE ⟨run G n, G.fuel, none, G.sub⟩ (.cmp .notin (.var 5) (.var 0)) [some (.loc f), some (.loc g), x2, x3, some (.int q.1), some (.int q.2)] ⟨s.ob.set g (.lk (.lst (es.map tp2))), s.ob.length, false⟩ = .ok (.bl (!decide (q.2 ∈ hs))) ⟨s.ob.set g (.lk (.lst (es.map tp2))), s.ob.length, false⟩ := cmp_ev rfl rfl (notin_V v2 _)
          have c3 : evE ⟨run G n, G.fuel, none, G.sub⟩ (.cmp .eq (.var 4) (.var 5)) [some (.loc f), some (.loc g), x2, x3, some (.int q.1), some (.int q.2)] ⟨s.ob.set g (.lk (.lst (es.map tp2))), s.ob.length, false⟩ = .ok (.bl (decide (q.1 = q.2))) ⟨s.ob.set g (.lk (.lst (es.map tp2))), s.ob.length, false⟩ := cmp_ev rfl rfl (eqI _ _ _)
          by_cases h1 : q.1 ∈ hs
          · rw [decide_eq_true h1] at c1
            rw [if_pos h1, seq_go (ifs_f c1 rfl rfl)]
            by_cases h2 : q.2 ∈ hs
            · rw [decide_eq_true h2] at c2
              rw [if_pos h2, seq_go (ifs_f c2 rfl rfl)]
              by_cases h3 : q.1 = q.2
              · rw [decide_eq_true h3] at c3
                rw [if_pos h3, seq_cons, ifs_t c3 rfl rfl]
                rfl
              · rw [decide_eq_false h3] at c3
                rw [if_neg h3, seq_go (ifs_f c3 rfl rfl)]
                rfl
            · rw [decide_eq_false h2] at c2
              rw [if_neg h2, seq_cons, ifs_t c2 rfl rfl]
              rfl
          · rw [decide_eq_false h1] at c1
            rw [if_neg h1, seq_cons, ifs_t c1 rfl rfl]
            rfl) ⟨none, none, rfl⟩
        have fo2 := for_locI (C := ⟨run G n, G.fuel, none, G.sub⟩) (t := .tp [.nm 4, .nm 5]) (i := 1) (bd := due7b) (ds := es.map tp2) (env := [some (.loc f), some (.loc g), x2, x3, none, none]) (env' := [some (.loc f), some (.loc g), x2, x3, x4, x5]) (s := ⟨s.ob, s.ob.length, false⟩) (o := es.findSome? fun q => dueE1 hs q.1 q.2) rfl hg q2
        cases he : (es.findSome? fun q => dueE1 hs q.1 q.2) with
        | some d =>
          rw [he] at fo2
          exact ⟨_, (seq_cons _ _ _ _ _).trans (by rw [fo2]; rfl)⟩
        | none =>
          rw [he] at fo2
          rw [seq_go fo2]
          exact ⟨_, rfl⟩
  obtain ⟨env', go⟩ := go
  show finR s (evSs _ fDue7.body _ ⟨s.ob, s.ob.length, false⟩) = _
  rw [go]
  exact fin_pure s _ _ (dueF_sdat hs es).2
end Fn

set_option linter.all false
set_option maxRecDepth 100000
set_option maxHeartbeats 1000000
namespace Fn
/-! P28: k07: faults put in, the law. -/
theorem lenV_ev {C : Ctx} {α : Type} {g : α → D} {v l : Nat} {ds : List α} {env : Env} {s : Sto} (hv : env[v]? = some (some (.loc l))) (h : view (.loc l) s = some (.lst (ds.map g))) : evE C (.blt .len false [.var v]) env s = .ok (.int (ds.length : Int)) s := by
  have := len_V h
  rw [List.length_map] at this
  simp only [evE, evEs, hv, R.bind_ok, this]
theorem idxV_ev {C : Ctx} {v l : Nat} {ds : List D} {b : ME} {env : Env} {s s1 : Sto} {k : Int} {z : D} (hv : env[v]? = some (some (.loc l))) (hb : evE C b env s = .ok (.int k) s1) (h : view (.loc l) s1 = some (.lst ds)) (hz : ixAt ds k = some z) : evE C (.idx (.var v) b) env s = .ok z s1 :=
  idx_ev (var_ev hv) hb ((idx_V h k).trans hz)
def Has7 (B : List Ob) (i j nf ne : Nat) : Prop := ∃ (fs : List Int) (es : List (Int × Int)), B[i]? = some (.lst (fs.map D.int)) ∧ B[j]? = some (.lst (es.map tp2)) ∧ fs.length ≤ nf ∧ es.length ≤ ne
theorem ins_map {α : Type} (g : α → D) (l : List α) (k : Nat) (v : α) : ((l.map g).take k ++ g v :: (l.map g).drop k) = (l.take k ++ v :: l.drop k).map g := by
  rw [List.map_append, List.map_cons, List.map_take, List.map_drop]
/-- a row that puts something in at a drawn place -/
theorem ins_st {G : Pg} (ht : G.fn "_law_take" = some fTake) (n : Nat) {α : Type} {g : α → D} {p i v : Nat} {l : List α} {A B : List Ob} {env : Env} {b : Nat} {e : Bool} {ve : ME} (hp : PotP p A) (h0 : env[0]? = some (some (.loc p))) (hv : env[v]? = some (some (.loc (p + 1 + i)))) (hB : B[i]? = some (.lst (l.map g))) (hg : ∀ a, (g a).lf = true) (hl : l.length ≤ 100000)
    (hx : ∀ A', PotP p A' → ∃ (A'' : List Ob) (x : α), evE ⟨run G (n + 1), G.fuel, none, G.sub⟩ ve env ⟨A' ++ B, b, e⟩ = .ok (g x) ⟨A'' ++ B, b, e⟩ ∧ PotP p A'') :
    ∃ (A' : List Ob) (l' : List α), evS ⟨run G (n + 1), G.fuel, none, G.sub⟩ (.exp (.bme .insert false (.var v) [.call "_law_take" [.var 0, .bin .add (.blt .len false [.var v]) (.cst (.int 1))] [] [] [.pos 0, .pos 1], ve])) env ⟨A ++ B, b, e⟩ = .ok .next env ⟨A' ++ B.set i (.lst (l'.map g)), b, e⟩ ∧ PotP p A' ∧ l'.length = l.length + 1 := by
  obtain ⟨r, A1, t1, a1, b1, p1⟩ := take_ev ht n (m := .bin .add (.blt .len false [.var v]) (.cst (.int 1))) (i := 0) (env := env) (B := B) (b := b) (e := e) (many := l.length + 1) h0 (bin_ev (lenV_ev hv (view_B hp.1 hB)) rfl (add_D _ _ _)) hp (by omega) (by omega)
  obtain ⟨A2, x, ex, p2⟩ := hx A1 p1
  have rc := (ins_B (b := b) (e := e) (r := 0) (v := g x) hp.1 hB (hg x) (by decide) (by rw [List.length_map]; exact hl)).1
  have q := (ins_B (b := b) (e := e) (r := r) (v := g x) p2.1 hB (hg x) ⟨a1, by omega⟩ (by rw [List.length_map]; exact hl)).2
  rw [ins_map] at q
  exact ⟨A2, l.take r.toNat ++ x :: l.drop r.toNat, exp_ev (bme_ev (var_ev hv) rc (evs_cons t1 (evs_cons ex evs_nil)) q), p2, by rw [(ins_perm l r.toNat x).length_eq, List.length_cons]⟩
def flt1 : MS := .ifs (.cmp .eq (.var 3) (.cst (.int 0))) [.asg [.nm 4] (.idx (.lst false [.cst (.int 0), .cst (.int 1000000001), .bin .sub (.cst (.int 0)) (.call "_law_take" [.var 0, .cst (.int 50)] [] [] [.pos 0, .pos 1]), .bin .pow (.cst (.int 10)) (.cst (.int 40))]) (.call "_law_take" [.var 0, .cst (.int 4)] [] [] [.pos 0, .pos 1])), .exp (.bme .insert false (.var 1) [.call "_law_take" [.var 0, .bin .add (.blt .len false [.var 1]) (.cst (.int 1))] [] [] [.pos 0, .pos 1], .var 4])] []
def flt2 : MS := .ifs (.and (.cmp .eq (.var 3) (.cst (.int 1))) (.var 1)) [.exp (.bme .insert false (.var 1) [.call "_law_take" [.var 0, .bin .add (.blt .len false [.var 1]) (.cst (.int 1))] [] [] [.pos 0, .pos 1], .idx (.var 1) (.call "_law_take" [.var 0, .blt .len false [.var 1]] [] [] [.pos 0, .pos 1])])] []
def flt3 : MS := .ifs (.and (.cmp .gt (.var 3) (.cst (.int 1))) (.var 1)) [.asg [.nm 5] (.idx (.var 1) (.call "_law_take" [.var 0, .blt .len false [.var 1]] [] [] [.pos 0, .pos 1])), .asg [.nm 6] (.var 5), .ifs (.cmp .eq (.var 3) (.cst (.int 3))) [.asg [.nm 6] (.call "_law_stranger" [.var 0, .var 1] [] [] [.pos 0, .pos 1])] [], .ifs (.cmp .eq (.var 3) (.cst (.int 4))) [.mul [.nm 5, .nm 6] [.call "_law_stranger" [.var 0, .var 1] [] [] [.pos 0, .pos 1], .var 5]] [], .exp (.bme .insert false (.var 2) [.call "_law_take" [.var 0, .bin .add (.blt .len false [.var 2]) (.cst (.int 1))] [] [] [.pos 0, .pos 1], .tup [.var 5, .var 6]])] []
def fFault : Fd := ⟨3, 7, [.asg [.nm 3] (.call "_law_take" [.var 0, .cst (.int 5)] [] [] [.pos 0, .pos 1]), flt1, flt2, flt3]⟩
theorem getset {B : List Ob} {i j : Nat} {o o' : Ob} (hi : B[i]? = some o) : (B.set i o')[i]? = some o' := List.getElem?_set_self (List.getElem?_eq_some_iff.mp hi).1
theorem pow40 (s : Sto) : ∃ x : Int, bin .pow (.int 10) (.int 40) s = .ok (.int x) s := ⟨_, pow_D 10 40 s (by decide)⟩
section
variable {G : Pg} {n p i j nf ne : Nat} {A B : List Ob} {b : Nat} {e : Bool} {kd : Int} {x4 x5 x6 : Option D}
abbrev C7 (G : Pg) (n : Nat) : Ctx := ⟨run G (n + 1), G.fuel, none, G.sub⟩
def E7 (p i j : Nat) (kd : Int) (x4 x5 x6 : Option D) : Env := [some (.loc p), some (.loc (p + 1 + i)), some (.loc (p + 1 + j)), some (.int kd), x4, x5, x6]
theorem flt1_st (ht : G.fn "_law_take" = some fTake) (hp : PotP p A) (hij : i ≠ j) (hB : Has7 B i j nf ne) (hn : nf ≤ 1000) :
    ∃ A' B' x4', evS (C7 G n) flt1 (E7 p i j kd x4 x5 x6) ⟨A ++ B, b, e⟩ = .ok .next (E7 p i j kd x4' x5 x6) ⟨A' ++ B', b, e⟩ ∧ PotP p A' ∧ B'.length = B.length ∧ Has7 B' i j (nf + 1) ne := by
  obtain ⟨fs, es, h1, h2, h3, h4⟩ := hB
  have cq : evE (C7 G n) (.cmp .eq (.var 3) (.cst (.int 0))) (E7 p i j kd x4 x5 x6) ⟨A ++ B, b, e⟩ = .ok (.bl (decide (kd = 0))) ⟨A ++ B, b, e⟩ := cmp_ev rfl rfl (eqI _ _ _)
  cases hk : decide (kd = 0) with
  | false =>
    rw [hk] at cq
    exact ⟨A, B, x4, ifs_f cq rfl rfl, hp, rfl, fs, es, h1, h2, by omega, h4⟩
  | true =>
    rw [hk] at cq
    obtain ⟨r1, A1, t1, a1, b1, p1⟩ := take_ev ht n (m := .cst (.int 50)) (i := 0) (env := E7 p i j kd x4 x5 x6) (B := B) (b := b) (e := e) rfl rfl hp (by decide) (by decide)
    obtain ⟨x40, q40⟩ := pow40 ⟨A1 ++ B, b, e⟩
    obtain ⟨r2, A2, t2, a2, b2, p2⟩ := take_ev ht n (m := .cst (.int 4)) (i := 0) (env := E7 p i j kd x4 x5 x6) (B := B) (b := b) (e := e) rfl rfl p1 (by decide) (by decide)
    obtain ⟨bad, _, ix⟩ := pick_ix D.int [0, 1000000001, 0 - r1, x40] a2 b2
    have l1 : evE (C7 G n) (.lst false [.cst (.int 0), .cst (.int 1000000001), .bin .sub (.cst (.int 0)) (.call "_law_take" [.var 0, .cst (.int 50)] [] [] [.pos 0, .pos 1]), .bin .pow (.cst (.int 10)) (.cst (.int 40))]) (E7 p i j kd x4 x5 x6) ⟨A ++ B, b, e⟩ = .ok (.frz (.lst ([0, 1000000001, 0 - r1, x40].map D.int))) ⟨A1 ++ B, b, e⟩ :=
      lst_ev (evs_cons rfl (evs_cons rfl (evs_cons (bin_ev (x := .int 0) rfl t1 (sub_D _ _ _)) (evs_cons (bin_ev (x := .int 10) (y := .int 40) rfl rfl q40) evs_nil)))) (by show 4 ≤ 16777216; decide)
    obtain ⟨A3, fs', q3, p3, l3⟩ := ins_st ht n (g := D.int) (v := 1) (ve := .var 4) (env := E7 p i j kd (some (.int bad)) x5 x6) (b := b) (e := e) p2 rfl rfl h1 (fun _ => rfl) (by omega) (fun A' hA' => ⟨A', bad, rfl, hA'⟩)
    refine ⟨A3, B.set i (.lst (fs'.map D.int)), some (.int bad), ?_, p3, List.length_set, fs', es, getset (j := i) h1, (List.getElem?_set_ne hij).trans h2, by omega, h4⟩
    refine ifs_t cq rfl ?_
    rw [seq_go (env' := E7 p i j kd (some (.int bad)) x5 x6) (asg_ev (idx_ev l1 t2 ix)), seq_go q3]
    rfl
theorem flt2_st (ht : G.fn "_law_take" = some fTake) (hp : PotP p A) (hij : i ≠ j) (hB : Has7 B i j nf ne) (hn : nf ≤ 1000) :
    ∃ A' B', evS (C7 G n) flt2 (E7 p i j kd x4 x5 x6) ⟨A ++ B, b, e⟩ = .ok .next (E7 p i j kd x4 x5 x6) ⟨A' ++ B', b, e⟩ ∧ PotP p A' ∧ B'.length = B.length ∧ Has7 B' i j (nf + 1) ne := by
  obtain ⟨fs, es, h1, h2, h3, h4⟩ := hB
  have cq : evE (C7 G n) (.cmp .eq (.var 3) (.cst (.int 1))) (E7 p i j kd x4 x5 x6) ⟨A ++ B, b, e⟩ = .ok (.bl (decide (kd = 1))) ⟨A ++ B, b, e⟩ := cmp_ev rfl rfl (eqI _ _ _)
  cases hk : decide (kd = 1) with
  | false =>
    rw [hk] at cq
    exact ⟨A, B, ifs_f (and_evF cq rfl) rfl rfl, hp, rfl, fs, es, h1, h2, by omega, h4⟩
  | true =>
    rw [hk] at cq
    have tv := truth_V (view_B (b := b) (e := e) hp.1 h1)
    cases hf : fs with
    | nil =>
      rw [hf] at tv
      refine ⟨A, B, ifs_f (and_ev (r := .ok (.loc (p + 1 + i)) ⟨A ++ B, b, e⟩) cq rfl rfl) tv rfl, hp, rfl, fs, es, h1, h2, by omega, h4⟩
    | cons f0 fs0 =>
      have tv' : truth (.loc (p + 1 + i)) ⟨A ++ B, b, e⟩ = some true := by rw [tv, hf]; rfl
      have fpos : 0 < fs.length := by rw [hf]; simp
      obtain ⟨A3, fs', q3, p3, l3⟩ := ins_st ht n (g := D.int) (v := 1) (ve := .idx (.var 1) (.call "_law_take" [.var 0, .blt .len false [.var 1]] [] [] [.pos 0, .pos 1])) (env := E7 p i j kd x4 x5 x6) (b := b) (e := e) hp rfl rfl h1 (fun _ => rfl) (by omega) (fun A' hA' => by
        obtain ⟨r2, A2, t2, a2, b2, p2⟩ := take_ev ht n (m := .blt .len false [.var 1]) (i := 0) (env := E7 p i j kd x4 x5 x6) (B := B) (b := b) (e := e) (many := fs.length) rfl (lenV_ev rfl (view_B hA'.1 h1)) hA' (by omega) (by omega)
        obtain ⟨z, _, ix⟩ := pick_ix D.int fs a2 b2
        exact ⟨A2, z, idxV_ev rfl t2 (view_B p2.1 h1) ix, p2⟩)
      refine ⟨A3, B.set i (.lst (fs'.map D.int)), ?_, p3, List.length_set, fs', es, getset (j := i) h1, (List.getElem?_set_ne hij).trans h2, by omega, h4⟩
      refine ifs_t (and_ev (r := .ok (.loc (p + 1 + i)) ⟨A ++ B, b, e⟩) cq rfl rfl) tv' ?_
      rw [seq_go q3]
      rfl
theorem flt3_st (ht : G.fn "_law_take" = some fTake) (hs : G.fn "_law_stranger" = some fStranger) (hfu : 100000 ≤ G.fuel) (hp : PotP p A) (hij : i ≠ j) (hB : Has7 B i j nf ne) (hn : nf ≤ 1000) (hne : ne ≤ 20000) :
    ∃ A' B' x5' x6', evS (C7 G (n + 1)) flt3 (E7 p i j kd x4 x5 x6) ⟨A ++ B, b, e⟩ = .ok .next (E7 p i j kd x4 x5' x6') ⟨A' ++ B', b, e⟩ ∧ PotP p A' ∧ B'.length = B.length ∧ Has7 B' i j nf (ne + 1) := by
  obtain ⟨fs, es, h1, h2, h3, h4⟩ := hB
  have cq : evE (C7 G (n + 1)) (.cmp .gt (.var 3) (.cst (.int 1))) (E7 p i j kd x4 x5 x6) ⟨A ++ B, b, e⟩ = .ok (.bl (decide (1 < kd))) ⟨A ++ B, b, e⟩ := cmp_ev rfl rfl (gtI _ _ _)
  cases hk : decide (1 < kd) with
  | false =>
    rw [hk] at cq
    exact ⟨A, B, x5, x6, ifs_f (and_evF cq rfl) rfl rfl, hp, rfl, fs, es, h1, h2, by omega, by omega⟩
  | true =>
    rw [hk] at cq
    have tv := truth_V (view_B (b := b) (e := e) hp.1 h1)
    cases hf : fs with
    | nil =>
      rw [hf] at tv
      refine ⟨A, B, x5, x6, ifs_f (and_ev (r := .ok (.loc (p + 1 + i)) ⟨A ++ B, b, e⟩) cq rfl rfl) tv rfl, hp, rfl, fs, es, h1, h2, by omega, by omega⟩
    | cons f0 fs0 =>
      have tv' : truth (.loc (p + 1 + i)) ⟨A ++ B, b, e⟩ = some true := by rw [tv, hf]; rfl
      have fpos : 0 < fs.length := by rw [hf]; simp
      obtain ⟨r1, A1, t1, a1, b1, p1⟩ := take_ev ht (n + 1) (m := .blt .len false [.var 1]) (i := 0) (env := E7 p i j kd x4 x5 x6) (B := B) (b := b) (e := e) (many := fs.length) rfl (lenV_ev rfl (view_B hp.1 h1)) hp (by omega) (by omega)
      obtain ⟨z, _, ix⟩ := pick_ix D.int fs a1 b1
      have s1 : evS (C7 G (n + 1)) (.asg [.nm 5] (.idx (.var 1) (.call "_law_take" [.var 0, .blt .len false [.var 1]] [] [] [.pos 0, .pos 1]))) (E7 p i j kd x4 x5 x6) ⟨A ++ B, b, e⟩ = .ok .next (E7 p i j kd x4 (some (.int z)) x6) ⟨A1 ++ B, b, e⟩ := asg_ev (idxV_ev rfl t1 (view_B p1.1 h1) ix)
      have s2 : evS (C7 G (n + 1)) (.asg [.nm 6] (.var 5)) (E7 p i j kd x4 (some (.int z)) x6) ⟨A1 ++ B, b, e⟩ = .ok .next (E7 p i j kd x4 (some (.int z)) (some (.int z))) ⟨A1 ++ B, b, e⟩ := asg_ev rfl
      have str : ∀ (A' : List Ob) (y5 y6 : Option D), PotP p A' → ∃ r A'', evE (C7 G (n + 1)) (.call "_law_stranger" [.var 0, .var 1] [] [] [.pos 0, .pos 1]) (E7 p i j kd x4 y5 y6) ⟨A' ++ B, b, e⟩ = .ok (.int r) ⟨A'' ++ B, b, e⟩ ∧ PotP p A'' := fun A' y5 y6 hA' => by
        obtain ⟨r, A'', q, p', _, _⟩ := strangerV_run G hs ht n p (.loc (p + 1 + i)) fs A' B b e hA' (fun A'' b e x hl => isin_V (view_B hl h1) x) (by omega)
        exact ⟨r, A'', (call_ev rfl rfl).trans q, p'⟩
      obtain ⟨y6, A2, s3, p2⟩ : ∃ (y6 : Int) (A2 : List Ob), evS (C7 G (n + 1)) (.ifs (.cmp .eq (.var 3) (.cst (.int 3))) [.asg [.nm 6] (.call "_law_stranger" [.var 0, .var 1] [] [] [.pos 0, .pos 1])] []) (E7 p i j kd x4 (some (.int z)) (some (.int z))) ⟨A1 ++ B, b, e⟩ = .ok .next (E7 p i j kd x4 (some (.int z)) (some (.int y6))) ⟨A2 ++ B, b, e⟩ ∧ PotP p A2 := by
        have cq : evE (C7 G (n + 1)) (.cmp .eq (.var 3) (.cst (.int 3))) (E7 p i j kd x4 (some (.int z)) (some (.int z))) ⟨A1 ++ B, b, e⟩ = .ok (.bl (decide (kd = 3))) ⟨A1 ++ B, b, e⟩ := cmp_ev rfl rfl (eqI _ _ _)
        cases hk : decide (kd = 3) with
        | false => rw [hk] at cq; exact ⟨z, A1, ifs_f cq rfl rfl, p1⟩
        | true =>
          rw [hk] at cq
          obtain ⟨r, A2, q, p2⟩ := str A1 (some (.int z)) (some (.int z)) p1
          exact ⟨r, A2, ifs_t cq rfl ((seq_go (asg_ev q)).trans rfl), p2⟩
      obtain ⟨y5, y6', A3, s4, p3⟩ : ∃ (y5 y6' : Int) (A3 : List Ob), evS (C7 G (n + 1)) (.ifs (.cmp .eq (.var 3) (.cst (.int 4))) [.mul [.nm 5, .nm 6] [.call "_law_stranger" [.var 0, .var 1] [] [] [.pos 0, .pos 1], .var 5]] []) (E7 p i j kd x4 (some (.int z)) (some (.int y6))) ⟨A2 ++ B, b, e⟩ = .ok .next (E7 p i j kd x4 (some (.int y5)) (some (.int y6'))) ⟨A3 ++ B, b, e⟩ ∧ PotP p A3 := by
        have cq : evE (C7 G (n + 1)) (.cmp .eq (.var 3) (.cst (.int 4))) (E7 p i j kd x4 (some (.int z)) (some (.int y6))) ⟨A2 ++ B, b, e⟩ = .ok (.bl (decide (kd = 4))) ⟨A2 ++ B, b, e⟩ := cmp_ev rfl rfl (eqI _ _ _)
        cases hk : decide (kd = 4) with
        | false => rw [hk] at cq; exact ⟨z, y6, A2, ifs_f cq rfl rfl, p2⟩
        | true =>
          rw [hk] at cq
          obtain ⟨r, A3, q, p3⟩ := str A2 (some (.int z)) (some (.int y6)) p2
          have mu : evS (C7 G (n + 1)) (.mul [.nm 5, .nm 6] [.call "_law_stranger" [.var 0, .var 1] [] [] [.pos 0, .pos 1], .var 5]) (E7 p i j kd x4 (some (.int z)) (some (.int y6))) ⟨A2 ++ B, b, e⟩ = .ok .next (E7 p i j kd x4 (some (.int r)) (some (.int z))) ⟨A3 ++ B, b, e⟩ := by
            have ee : evEs (C7 G (n + 1)) [.call "_law_stranger" [.var 0, .var 1] [] [] [.pos 0, .pos 1], .var 5] (E7 p i j kd x4 (some (.int z)) (some (.int y6))) ⟨A2 ++ B, b, e⟩ = .ok [.int r, .int z] ⟨A3 ++ B, b, e⟩ := evs_cons q (evs_cons rfl evs_nil)
            show (evEs (C7 G (n + 1)) _ _ _).then _ _ = _
            rw [ee]
            rfl
          exact ⟨r, z, A3, ifs_t cq rfl ((seq_go mu).trans rfl), p3⟩
      obtain ⟨A4, es', q4, p4, l4⟩ := ins_st ht (n + 1) (g := tp2) (v := 2) (ve := .tup [.var 5, .var 6]) (env := E7 p i j kd x4 (some (.int y5)) (some (.int y6'))) (b := b) (e := e) p3 rfl rfl h2 (fun _ => rfl) (by omega) (fun A' hA' => ⟨A', (y5, y6'), rfl, hA'⟩)
      refine ⟨A4, B.set j (.lst (es'.map tp2)), some (.int y5), some (.int y6'), ?_, p4, List.length_set, fs, es', (List.getElem?_set_ne hij.symm).trans h1, getset (j := j) h2, by omega, by omega⟩
      refine ifs_t (and_ev (r := .ok (.loc (p + 1 + i)) ⟨A ++ B, b, e⟩) cq rfl rfl) tv' ?_
      rw [seq_go s1, seq_go s2, seq_go s3, seq_go s4, seq_go q4]
      rfl
end
theorem fault_run (G : Pg) (h : G.fn "_law_fault" = some fFault) (ht : G.fn "_law_take" = some fTake) (hs : G.fn "_law_stranger" = some fStranger) (hfu : 100000 ≤ G.fuel) (n p i j nf ne : Nat) (A B : List Ob) (b : Nat) (e : Bool) (hp : PotP p A) (hij : i ≠ j) (hB : Has7 B i j nf ne) (hn : nf ≤ 900) (hne : ne ≤ 20000) :
    ∃ A' B', run G (n + 3) "_law_fault" [.loc p, .loc (p + 1 + i), .loc (p + 1 + j)] ⟨A ++ B, b, e⟩ = .ok .non ⟨A' ++ B', b, e⟩ ∧ PotP p A' ∧ B'.length = B.length ∧ Has7 B' i j (nf + 2) (ne + 1) := by
  rw [run_eq G (n + 2) _ _ h _ _ rfl (by decide)]
  obtain ⟨r, A1, t1, a1, b1, p1⟩ := take_ev ht (n + 1) (m := .cst (.int 5)) (i := 0) (env := [some (.loc p), some (.loc (p + 1 + i)), some (.loc (p + 1 + j)), none, none, none, none]) (B := B) (b := (A ++ B).length) (e := false) rfl rfl hp (by decide) (by decide)
  obtain ⟨A2, B2, x4, s2, p2, l2, h2⟩ := flt1_st (G := G) (n := n + 1) (b := (A ++ B).length) (e := false) (kd := r) (x4 := none) (x5 := none) (x6 := none) ht p1 hij hB (by omega)
  obtain ⟨A3, B3, s3, p3, l3, h3⟩ := flt2_st (G := G) (n := n + 1) (b := (A ++ B).length) (e := false) (kd := r) (x4 := x4) (x5 := none) (x6 := none) ht p2 hij h2 (by omega)
  obtain ⟨A4, B4, x5, x6, s4, p4, l4, h4⟩ := flt3_st (G := G) (n := n) (b := (A ++ B).length) (e := false) (kd := r) (x4 := x4) (x5 := none) (x6 := none) ht hs hfu p3 hij h3 (by omega) hne
  refine ⟨A4, B4, ?_, p4, by omega, h4⟩
  have go : evSs (C7 G (n + 1)) fFault.body [some (.loc p), some (.loc (p + 1 + i)), some (.loc (p + 1 + j)), none, none, none, none] ⟨A ++ B, (A ++ B).length, false⟩ = .ok .next (E7 p i j r x4 x5 x6) ⟨A4 ++ B4, (A ++ B).length, false⟩ := by
    show evSs _ (_ :: _ :: _ :: [_]) _ _ = _
    rw [seq_go (env' := E7 p i j r none none none) (asg_ev t1), seq_go s2, seq_go s3, seq_go s4]
    rfl
  show finR ⟨A ++ B, b, e⟩ (evSs (C7 G (n + 1)) fFault.body [some (.loc p), some (.loc (p + 1 + i)), some (.loc (p + 1 + j)), none, none, none, none] ⟨A ++ B, (A ++ B).length, false⟩) = _
  rw [go]
  have hl : (A4 ++ B4).length = (A ++ B).length := by rw [List.length_append, List.length_append, p4.1, hp.1]; omega
  show (if (A ++ B).length = (A ++ B).length then R.ok D.non (finB ⟨A ++ B, b, e⟩ true ⟨A4 ++ B4, (A ++ B).length, false⟩) else .no) = _
  rw [if_pos rfl]
  unfold finB
  rw [if_pos ⟨rfl, rfl⟩]
  show R.ok D.non (⟨(A4 ++ B4).take (A ++ B).length, b, e⟩ : Sto) = _
  rw [← hl, List.take_length]
end Fn

set_option linter.all false
set_option maxRecDepth 100000
set_option maxHeartbeats 1000000
namespace Fn
/-! P29: k07's law. -/
def why7 : ME := .why "_law_why" ws7 (.make "Field" [.blt .list false [.var 4], .blt .list false [.var 3]] ["both"] [.cst (.bl false)] [.pos 0, .pos 1, .kw 0])
def br7 : MS := .ifs (.cmp .eq (.call "_law_take" [.var 1, .cst (.int 8)] [] [] [.pos 0, .pos 1]) (.cst (.int 0))) [.asg [.nm 4] (.call "_law_folk" [.var 1, .bin .add (.cst (.int 38)) (.call "_law_take" [.var 1, .cst (.int 5)] [] [] [.pos 0, .pos 1])] [] [] [.pos 0, .pos 1])] [.asg [.nm 4] (.call "_law_folk" [.var 1, .var 2] [] [] [.pos 0, .pos 1]), .asg [.nm 3] (.call "_law_ears" [.var 1, .var 4, .cst (.int 2)] [] [] [.pos 0, .pos 1, .pos 2])]
def fLaw7 : Fd := ⟨1, 7, [
    .asg [.nm 1] (.call "_law_pot" [.var 0] [] [] [.pos 0]),
    .asg [.nm 2] (.call "_law_take" [.var 1, .cst (.int 7)] [] [] [.pos 0, .pos 1]),
    .asg [.nm 3] (.lst true []),
    br7,
    .for (.nm 5) (.rng (.call "_law_take" [.var 1, .cst (.int 5)] [] [] [.pos 0, .pos 1])) [.exp (.call "_law_fault" [.var 1, .var 4, .var 3] [] [] [.pos 0, .pos 1, .pos 2])],
    .asg [.nm 6] (.call "_law_due" [.var 4, .var 3] [] [] [.pos 0, .pos 1]),
    .ret (some (.call "_law_same" [why7, .var 6] [] [] [.pos 0, .pos 1]))]⟩
structure G7 (G : Pg) : Prop extends GF G, Tells G where
  pot : G.fn "_law_pot" = some fPot
  take : G.fn "_law_take" = some fTake
  same : G.fn "_law_same" = some fSame
  folk : G.fn "_law_folk" = some fFolkM
  ears : G.fn "_law_ears" = some fEarsM
  stranger : G.fn "_law_stranger" = some fStranger
  due : G.fn "_law_due" = some fDue7
  fault : G.fn "_law_fault" = some fFault
  law : G.fn "law" = some fLaw7
  fuel : 100000 ≤ G.fuel
def E7L (ns : List Int) (p : Nat) (r : Int) (x3 x4 x5 x6 : Option D) : Env := [some (.klst (ns.map D.int)), some (.loc p), some (.int r), x3, x4, x5, x6]
theorem why_evN {C : Ctx} {g : String} {ws : List (String × List Nat × List String)} {e : ME} {env : Env} {s s' : Sto} {d : D} (he : evE C e env s = .ok d s') : evE C (.why g ws e) env s = .ok (.tup [.str sNone]) s' := by
  simp only [evE, he]
  rfl
theorem law7_run {G : Pg} (g : G7 G) (n : Nat) (ns : List Int) (hl : ns.length ≤ 63) : ∃ s', run G (n + 8) "law" [.klst (ns.map D.int)] ⟨[], 0, false⟩ = .ok (.bl true) s' := by
  rw [run_eq G (n + 7) _ _ g.law _ _ rfl (by decide)]
  obtain ⟨p, A0, t0, p0⟩ := pot_pot G g.pot (n + 6) ns hl
  have ev0 : evS (C7 G (n + 6)) (.asg [.nm 1] (.call "_law_pot" [.var 0] [] [] [.pos 0])) [some (.klst (ns.map D.int)), none, none, none, none, none, none] ⟨[], 0, false⟩ = .ok .next [some (.klst (ns.map D.int)), some (.loc p), none, none, none, none, none] ⟨A0 ++ [], 0, false⟩ := by
    rw [List.append_nil]
    exact asg_ev ((call_ev (evs_cons rfl evs_nil) rfl).trans t0)
  obtain ⟨r, A1, t1, a1, b1, p1⟩ := take_ev g.take (n + 6) (m := .cst (.int 7)) (i := 1) (env := [some (.klst (ns.map D.int)), some (.loc p), none, none, none, none, none]) (B := []) (b := 0) (e := false) rfl rfl p0 (by decide) (by decide)
  have ev1 : evS (C7 G (n + 6)) (.asg [.nm 2] (.call "_law_take" [.var 1, .cst (.int 7)] [] [] [.pos 0, .pos 1])) [some (.klst (ns.map D.int)), some (.loc p), none, none, none, none, none] ⟨A0 ++ [], 0, false⟩ = .ok .next (E7L ns p r none none none none) ⟨A1 ++ [], 0, false⟩ := asg_ev t1
  have le0 : (A1 ++ ([] : List Ob)).length = p + 1 + 0 := by rw [List.append_nil, p1.1]
  have ev2 : evS (C7 G (n + 6)) (.asg [.nm 3] (.lst true [])) (E7L ns p r none none none none) ⟨A1 ++ [], 0, false⟩ = .ok .next (E7L ns p r (some (.loc (p + 1 + 0))) none none none) ⟨A1 ++ [.lst []], 0, false⟩ := by
    have q := new_ev (C := C7 G (n + 6)) (i := 3) (env := E7L ns p r none none none none) (A := A1) (B := []) (b := 0) (e := false)
    rw [le0] at q
    exact q
  obtain ⟨r3, A3, t3, a3, b3, p3⟩ := take_ev g.take (n + 6) (m := .cst (.int 8)) (i := 1) (env := E7L ns p r (some (.loc (p + 1 + 0))) none none none) (B := [.lst []]) (b := 0) (e := false) rfl rfl p1 (by decide) (by decide)
  -- houses and ears
  obtain ⟨j, A4, B4, ev3, p4, h4, hj⟩ : ∃ (j : Nat) (A4 B4 : List Ob), evS (C7 G (n + 6)) br7 (E7L ns p r (some (.loc (p + 1 + 0))) none none none) ⟨A1 ++ [.lst []], 0, false⟩ = .ok .next (E7L ns p r (some (.loc (p + 1 + j))) (some (.loc (p + 1 + 1))) none none) ⟨A4 ++ B4, 0, false⟩ ∧ PotP p A4 ∧ Has7 B4 1 j 42 10000 ∧ 1 ≠ j := by
    have cq := cmp_ev (op := .eq) (b := .cst (.int 0)) (y := .int 0) (bv := decide (r3 = 0)) t3 rfl (eqI r3 0 _)
    have lA : ∀ A' : List Ob, PotP p A' → (A' ++ [Ob.lst []]).length = p + 1 + 1 := fun A' hA' => by rw [List.length_append, hA'.1]; rfl
    cases h0 : decide (r3 = 0) with
    | true =>
      rw [h0] at cq
      obtain ⟨r5, A5, t5, a5, b5, p5⟩ := take_ev g.take (n + 6) (m := .cst (.int 5)) (i := 1) (env := E7L ns p r (some (.loc (p + 1 + 0))) none none none) (B := [.lst []]) (b := 0) (e := false) rfl rfl p3 (by decide) (by decide)
      obtain ⟨k, hk⟩ : ∃ k : Nat, 38 + r5 = (k : Int) := ⟨(38 + r5).toNat, by omega⟩
      obtain ⟨hs, A6, t6, p6, hf, hfl⟩ := folkM_run G g.folk g.take (n + 5) p k A5 [.lst []] 0 false p5 (by omega)
      rw [lA A5 p5] at t6
      refine ⟨0, A6, [.lst []] ++ [.lst (hs.map D.int)], ?_, p6, ⟨hs, [], rfl, rfl, by omega, by simp⟩, by decide⟩
      refine ifs_t cq rfl ?_
      have ad := bin_ev (op := .add) (a := .cst (.int 38)) (x := .int 38) rfl t5 (z := .int k) (by rw [add_D, hk])
      rw [seq_go (env' := E7L ns p r (some (.loc (p + 1 + 0))) (some (.loc (p + 1 + 1))) none none) (asg_ev ((call_ev (evs_cons (e := .var 1) (d := .loc p) rfl (evs_cons ad evs_nil)) rfl).trans t6))]
      rfl
    | false =>
      rw [h0] at cq
      obtain ⟨k, hk⟩ : ∃ k : Nat, r = (k : Int) := ⟨r.toNat, by omega⟩
      subst hk
      obtain ⟨hs, A6, t6, p6, hf, hfl⟩ := folkM_run G g.folk g.take (n + 5) p k A3 [.lst []] 0 false p3 (by omega)
      rw [lA A3 p3] at t6
      obtain ⟨es, A7, t7, p7, he, hel⟩ := earsM_run G g.ears g.take (n + 5) p 1 hs 2 A6 ([.lst []] ++ [.lst (hs.map D.int)]) 0 false p6 rfl (by omega) hf.1
      have l2 : (A6 ++ ([Ob.lst []] ++ [Ob.lst (hs.map D.int)])).length = p + 1 + 2 := by rw [List.length_append, p6.1]; rfl
      rw [l2] at t7
      refine ⟨2, A7, ([.lst []] ++ [.lst (hs.map D.int)]) ++ [.lst (es.map tp2)], ?_, p7, ⟨hs, es, rfl, rfl, by omega, hel⟩, by decide⟩
      refine ifs_f cq rfl ?_
      rw [seq_go (env' := E7L ns p (k : Int) (some (.loc (p + 1 + 0))) (some (.loc (p + 1 + 1))) none none) (asg_ev ((call_ev rfl rfl).trans t6))]
      rw [seq_go (env' := E7L ns p (k : Int) (some (.loc (p + 1 + 2))) (some (.loc (p + 1 + 1))) none none) (asg_ev ((call_ev rfl rfl).trans t7))]
      rfl
  -- faults
  obtain ⟨r5, A5, t5, a5, b5, p5⟩ := take_ev g.take (n + 6) (m := .cst (.int 5)) (i := 1) (env := E7L ns p r (some (.loc (p + 1 + j))) (some (.loc (p + 1 + 1))) none none) (B := B4) (b := 0) (e := false) rfl rfl p4 (by decide) (by decide)
  obtain ⟨env6, s6, l6, x5, A6, B6, rfl, rfl, p6, h6⟩ := forL_invN (fun d env s => match bindT 3 (.nm 5) d s env with
      | some env => evSs (C7 G (n + 6)) [.exp (.call "_law_fault" [.var 1, .var 4, .var 3] [] [] [.pos 0, .pos 1, .pos 2])] env s
      | none => .no) (fun (k : Nat) => D.int (k : Int)) (fun k env s => ∃ (x5 : Option D) (A B : List Ob), env = E7L ns p r (some (.loc (p + 1 + j))) (some (.loc (p + 1 + 1))) x5 none ∧ s = ⟨A ++ B, 0, false⟩ ∧ PotP p A ∧ Has7 B 1 j (42 + 2 * k) (10000 + k)) r5.toNat (List.range r5.toNat) 0 (E7L ns p r (some (.loc (p + 1 + j))) (some (.loc (p + 1 + 1))) none none) ⟨A5 ++ B4, 0, false⟩ (by rw [List.length_range]; omega) (fun x hx k env s hk hi => by
    obtain ⟨x5, A, B, rfl, rfl, pA, hB⟩ := hi
    obtain ⟨A', B', q, pA', lB, hB'⟩ := fault_run G g.fault g.take g.stranger g.fuel (n + 4) p 1 j (42 + 2 * k) (10000 + k) A B 0 false pA hj hB (by omega) (by omega)
    refine ⟨E7L ns p r (some (.loc (p + 1 + j))) (some (.loc (p + 1 + 1))) (some (.int (x : Int))) none, ⟨A' ++ B', 0, false⟩, ?_, some (.int (x : Int)), A', B', rfl, rfl, pA', by
      have e1 : 42 + 2 * (k + 1) = 42 + 2 * k + 2 := by omega
      have e2 : 10000 + (k + 1) = 10000 + k + 1 := by omega
      rw [e1, e2]; exact hB'⟩
    show evSs _ [_] (E7L ns p r (some (.loc (p + 1 + j))) (some (.loc (p + 1 + 1))) (some (.int (x : Int))) none) _ = _
    rw [seq_go (exp_ev ((call_ev rfl rfl).trans q))]
    rfl) ⟨none, A5, B4, rfl, rfl, p5, h4⟩
  rw [List.length_range, Nat.zero_add] at h6
  have ev4 : evS (C7 G (n + 6)) (.for (.nm 5) (.rng (.call "_law_take" [.var 1, .cst (.int 5)] [] [] [.pos 0, .pos 1])) [.exp (.call "_law_fault" [.var 1, .var 4, .var 3] [] [] [.pos 0, .pos 1, .pos 2])]) (E7L ns p r (some (.loc (p + 1 + j))) (some (.loc (p + 1 + 1))) none none) ⟨A4 ++ B4, 0, false⟩ = .ok .next (E7L ns p r (some (.loc (p + 1 + j))) (some (.loc (p + 1 + 1))) x5 none) ⟨A6 ++ B6, 0, false⟩ := for_rng t5 (by omega) l6
  obtain ⟨hs, es, h1, h2, h3, h4⟩ := h6
  have ev5 : evS (C7 G (n + 6)) (.asg [.nm 6] (.call "_law_due" [.var 4, .var 3] [] [] [.pos 0, .pos 1])) (E7L ns p r (some (.loc (p + 1 + j))) (some (.loc (p + 1 + 1))) x5 none) ⟨A6 ++ B6, 0, false⟩ = .ok .next (E7L ns p r (some (.loc (p + 1 + j))) (some (.loc (p + 1 + 1))) x5 (some (dueF hs es))) ⟨A6 ++ B6, 0, false⟩ :=
    asg_ev ((call_ev rfl rfl).trans (due7_run G g.due (n + 6) (p + 1 + 1) (p + 1 + j) hs es _ (by omega) ((getB p6.1).trans h1) ((getB p6.1).trans h2)))
  have vh := view_B (b := 0) (e := false) p6.1 h1
  have ve := view_B (b := 0) (e := false) p6.1 h2
  obtain ⟨Y, e', q⟩ := init_run G g.init g.ce g.ck (n + 4) (A6 ++ B6) 0 false (.frz (.lst (hs.map D.int))) (.frz (.lst (es.map tp2))) false hs es (fun s => rfl) (fun s => len_frz D.int hs s) rfl (fun s => rfl) rfl (by omega)
  have la : ∀ k : Nat, k ≤ 100000 → k ≤ lenLine := fun k hk => Nat.le_trans hk (by decide)
  have mk : evE (C7 G (n + 6)) (.make "Field" [.blt .list false [.var 4], .blt .list false [.var 3]] ["both"] [.cst (.bl false)] [.pos 0, .pos 1, .kw 0]) (E7L ns p r (some (.loc (p + 1 + j))) (some (.loc (p + 1 + 1))) x5 (some (dueF hs es))) ⟨A6 ++ B6, 0, false⟩ = match fieldX hs es with
      | none => .ok (.loc (A6 ++ B6).length) ⟨A6 ++ B6 ++ FldB (A6 ++ B6).length hs (es.foldl (earAdd false) []), 0, true⟩
      | some xn => .ex xn ⟨A6 ++ B6 ++ Y, 0, e'⟩ := by
    have e4 : evE (C7 G (n + 6)) (.blt .list false [.var 4]) (E7L ns p r (some (.loc (p + 1 + j))) (some (.loc (p + 1 + 1))) x5 (some (dueF hs es))) ⟨A6 ++ B6, 0, false⟩ = .ok (.frz (.lst (hs.map D.int))) ⟨A6 ++ B6, 0, false⟩ := by
      have := list_V vh (by rw [List.length_map]; exact la _ (by omega))
      show (evEs _ [.var 4] _ _).bind _ = _
      rw [evs_cons (e := .var 4) (d := .loc (p + 1 + 1)) rfl evs_nil]
      exact this
    have e3 : evE (C7 G (n + 6)) (.blt .list false [.var 3]) (E7L ns p r (some (.loc (p + 1 + j))) (some (.loc (p + 1 + 1))) x5 (some (dueF hs es))) ⟨A6 ++ B6, 0, false⟩ = .ok (.frz (.lst (es.map tp2))) ⟨A6 ++ B6, 0, false⟩ := by
      have := list_V ve (by rw [List.length_map]; exact la _ (by omega))
      show (evEs _ [.var 3] _ _).bind _ = _
      rw [evs_cons (e := .var 3) (d := .loc (p + 1 + j)) rfl evs_nil]
      exact this
    show (evEs _ [.blt .list false [.var 4], .blt .list false [.var 3]] _ _).bind _ = _
    rw [evs_cons e4 (evs_cons e3 evs_nil)]
    simp only [R.bind_ok, evEs, evE, srcs, Src.get, List.getElem?_cons_succ, List.getElem?_cons_zero, sInit]
    rw [q]
    cases fieldX hs es <;> rfl
  have tl := dueF_tells g.toTells hs es
  have sm := same_any g.same (n + 7) 1 (dueF hs es) (dueF_sdat hs es).1 (by omega)
  have fin : ∃ s', evE (C7 G (n + 6)) (.call "_law_same" [why7, .var 6] [] [] [.pos 0, .pos 1]) (E7L ns p r (some (.loc (p + 1 + j))) (some (.loc (p + 1 + 1))) x5 (some (dueF hs es))) ⟨A6 ++ B6, 0, false⟩ = .ok (.bl true) s' ∧ s'.base = 0 := by
    cases hx : fieldX hs es with
    | none =>
      rw [hx] at mk tl
      dsimp only at tl
      have w := why_evN (g := "_law_why") (ws := ws7) mk
      rw [← tl] at w
      exact ⟨_, same_ret w rfl (sm _), rfl⟩
    | some x =>
      rw [hx] at mk tl
      exact ⟨_, same_ret (why_ev mk tl) rfl (sm _), rfl⟩
  obtain ⟨s', fin, hb⟩ := fin
  have go : evSs (C7 G (n + 6)) fLaw7.body ([D.klst (ns.map D.int)].map some ++ List.replicate (fLaw7.ns - fLaw7.np) none) ⟨[], 0, false⟩ = .ok (.ret (.bl true)) (E7L ns p r (some (.loc (p + 1 + j))) (some (.loc (p + 1 + 1))) x5 (some (dueF hs es))) s' := by
    show evSs _ (_ :: _ :: _ :: _ :: _ :: _ :: [_]) [some (.klst (ns.map D.int)), none, none, none, none, none, none] _ = _
    rw [seq_go ev0, seq_go ev1, seq_go ev2, seq_go ev3, seq_go ev4, seq_go ev5]
    exact ret_ev fin
  show ∃ s'', finR ⟨[], 0, false⟩ (evSs (C7 G (n + 6)) fLaw7.body _ ⟨[], 0, false⟩) = _
  rw [go]
  refine ⟨finB ⟨[], 0, false⟩ true s', ?_⟩
  show (if s'.base = 0 then R.ok (D.bl true) (finB ⟨[], 0, false⟩ true s') else .no) = _
  rw [if_pos hb]
end Fn

set_option Elab.async false
set_option linter.all false
set_option maxRecDepth 100000
set_option maxHeartbeats 400000
namespace K07
open PySem PySem.Spec PyProof.Rows L2 Fn
def f_Field_init : Fd := ⟨4, 7, [
    .ifs (.cmp .gt (.blt .len false [.var 1]) (.glb "MOST_HOUSES" (.int 40))) [.raise "TooMany" ["bound"] [.glb "MOST_HOUSES" (.int 40)]] [],
    .asg [.fl ["Field"] (.var 0) "folk"] (.dct true false [] []),
    .asg [.fl ["Field"] (.var 0) "pairs"] (.dct true true [] []),
    .for (.nm 4) (.itl (.var 1)) [.ifs (.not (.chain .le .le (.cst (.int 1)) (.var 4) (.glb "MOST_NUMBER" (.int 1000000000)))) [.raise "BadNumber" [] [.cst (.str [97, 32, 104, 111, 117, 115, 101, 39, 115, 32, 110, 117, 109, 98, 101, 114])]] [], .ifs (.cmp .isin (.var 4) (.fld ["Field"] (.var 0) "folk")) [.raise "Twice" ["house"] [.var 4]] [], .asg [.ix (.fld ["Field"] (.var 0) "folk") (.var 4)] (.cst (.bl true))],
    .for (.tp [.nm 5, .nm 6]) (.itl (.var 2)) [.exp (.meth "Field" "check_ear" (.var 0) [.var 5, .var 6] [] [] [.pos 0, .pos 1]), .asg [.ix (.fld ["Field"] (.var 0) "pairs") (.tup [.var 5, .var 6])] (.cst (.bl true)), .ifs (.var 3) [.asg [.ix (.fld ["Field"] (.var 0) "pairs") (.tup [.var 6, .var 5])] (.cst (.bl true))] []]]⟩
def f_Field_check : Fd := ⟨2, 2, [
    .ifs (.cmp .notin (.var 1) (.fld ["Field"] (.var 0) "folk")) [.raise "NoHouse" ["house"] [.var 1]] []]⟩
def f_Field_check_ear : Fd := ⟨3, 3, [
    .exp (.meth "Field" "check" (.var 0) [.var 1] [] [] [.pos 0]),
    .exp (.meth "Field" "check" (.var 0) [.var 2] [] [] [.pos 0]),
    .ifs (.cmp .eq (.var 1) (.var 2)) [.raise "NoEar" ["speaker", "listener"] [.var 1, .var 2]] []]⟩
def f__law_pot : Fd := ⟨1, 3, [
    .asg [.nm 1] (.lc true [2] (.nm 2) (.it (.slc false (.var 0) none (some (.cst (.int 63))))) [] (.elt (.blt .abs false [.var 2]))),
    .ifs (.not (.var 1)) [.asg [.nm 1] (.lst true [.cst (.int 0)])] [],
    .ret (some (.lst true [.var 1, .cst (.int 0), .cst (.int 0), .cst (.int 7)]))]⟩
def f__law_take : Fd := ⟨2, 3, [
    .aug (.ix (.var 0) (.cst (.int 2))) .add (.cst (.int 1)),
    .asg [.nm 2] (.idx (.idx (.var 0) (.cst (.int 0))) (.idx (.var 0) (.cst (.int 1)))),
    .ifs (.cmp .ge (.var 2) (.bin .pow (.cst (.int 10)) (.cst (.int 18)))) [.asg [.ix (.idx (.var 0) (.cst (.int 0))) (.idx (.var 0) (.cst (.int 1)))] (.bin .fdiv (.var 2) (.var 1)), .ret (some (.bin .mod (.var 2) (.var 1)))] [],
    .asg [.ix (.var 0) (.cst (.int 1))] (.bin .mod (.bin .add (.idx (.var 0) (.cst (.int 1))) (.cst (.int 1))) (.blt .len false [.idx (.var 0) (.cst (.int 0))])),
    .asg [.ix (.var 0) (.cst (.int 3))] (.bin .mod (.bin .add (.bin .add (.bin .mul (.idx (.var 0) (.cst (.int 3))) (.cst (.int 48271))) (.bin .mod (.var 2) (.cst (.int 2147483647)))) (.idx (.var 0) (.cst (.int 2)))) (.cst (.int 2147483647))),
    .ret (some (.bin .mod (.bin .fdiv (.idx (.var 0) (.cst (.int 3))) (.cst (.int 16))) (.var 1)))]⟩
def f__law_same : Fd := ⟨2, 4, [
    .ifs (.isN (.var 1)) [.ret (some (.isN (.var 0)))] [],
    .ifs (.blt (.isi [.bool]) false [.var 1]) [.ret (some (.and (.blt (.isi [.bool]) false [.var 0]) (.cmp .eq (.var 0) (.var 1))))] [],
    .ifs (.blt (.isi [.int]) false [.var 1]) [.ret (some (.and (.blt (.isi [.int]) false [.var 0]) (.and (.not (.blt (.isi [.bool]) false [.var 0])) (.cmp .eq (.var 0) (.var 1)))))] [],
    .ifs (.blt (.isi [.str]) false [.var 1]) [.ret (some (.and (.blt (.isi [.str]) false [.var 0]) (.cmp .eq (.var 0) (.var 1))))] [],
    .ifs (.blt (.isi [.list]) false [.var 1]) [.ifs (.or (.not (.blt (.isi [.list]) false [.var 0])) (.cmp .ne (.blt .len false [.var 0]) (.blt .len false [.var 1]))) [.ret (some (.cst (.bl false)))] []] [.ifs (.or (.not (.blt (.isi [.tuple]) false [.var 0])) (.cmp .ne (.blt .len false [.var 0]) (.blt .len false [.var 1]))) [.ret (some (.cst (.bl false)))] []],
    .ret (some (.blt .all false [.lc false [2, 3] (.tp [.nm 2, .nm 3]) (.zip (.var 0) (.var 1)) [] (.elt (.call "_law_same" [.var 2, .var 3] [] [] [.pos 0, .pos 1]))]))]⟩
def f__law_folk : Fd := ⟨2, 5, [
    .asg [.nm 2] (.lst true []),
    .asg [.nm 3] (.cst (.int 0)),
    .for (.nm 4) (.rng (.var 1)) [.asg [.nm 3] (.bin .add (.bin .add (.var 3) (.cst (.int 1))) (.call "_law_take" [.var 0, .idx (.lst false [.cst (.int 1), .cst (.int 3), .cst (.int 1000000)]) (.call "_law_take" [.var 0, .cst (.int 3)] [] [] [.pos 0, .pos 1])] [] [] [.pos 0, .pos 1])), .exp (.bme .insert false (.var 2) [.call "_law_take" [.var 0, .bin .add (.var 4) (.cst (.int 1))] [] [] [.pos 0, .pos 1], .var 3])],
    .ifs (.and (.cmp .gt (.var 1) (.cst (.int 0))) (.cmp .eq (.call "_law_take" [.var 0, .cst (.int 5)] [] [] [.pos 0, .pos 1]) (.cst (.int 0)))) [.asg [.ix (.var 2) (.bme .index false (.var 2) [.var 3])] (.cst (.int 1000000000))] [],
    .ret (some (.var 2))]⟩
def f__law_ears : Fd := ⟨3, 6, [
    .asg [.nm 3] (.lst true []),
    .for (.nm 4) (.it (.var 1)) [.for (.nm 5) (.it (.var 1)) [.ifs (.and (.cmp .ne (.var 4) (.var 5)) (.cmp .lt (.call "_law_take" [.var 0, .cst (.int 8)] [] [] [.pos 0, .pos 1]) (.var 2))) [.exp (.bme .insert false (.var 3) [.call "_law_take" [.var 0, .bin .add (.blt .len false [.var 3]) (.cst (.int 1))] [] [] [.pos 0, .pos 1], .tup [.var 4, .var 5]])] []]],
    .ret (some (.var 3))]⟩
def f__law_stranger : Fd := ⟨2, 3, [
    .asg [.nm 2] (.idx (.lst false [.cst (.int 1), .cst (.int 2), .cst (.int 900000000), .cst (.int 5), .cst (.int 77)]) (.call "_law_take" [.var 0, .cst (.int 5)] [] [] [.pos 0, .pos 1])),
    .whl (.cmp .isin (.var 2) (.var 1)) [.asg [.nm 2] (.bin .add (.var 2) (.cst (.int 1)))],
    .ret (some (.var 2))]⟩
def f__law_due : Fd := ⟨2, 6, [
    .ifs (.cmp .gt (.blt .len false [.var 0]) (.cst (.int 40))) [.ret (some (.tup [.cst (.str [84, 111, 111, 77, 97, 110, 121]), .cst (.int 40)]))] [],
    .for (.tp [.nm 2, .nm 3]) (.enum (.var 0)) [.ifs (.or (.cmp .lt (.var 3) (.cst (.int 1))) (.cmp .gt (.var 3) (.cst (.int 1000000000)))) [.ret (some (.tup [.cst (.str [66, 97, 100, 78, 117, 109, 98, 101, 114])]))] [], .ifs (.cmp .isin (.var 3) (.slc false (.var 0) none (some (.var 2)))) [.ret (some (.tup [.cst (.str [84, 119, 105, 99, 101]), .var 3]))] []],
    .for (.tp [.nm 4, .nm 5]) (.it (.var 1)) [.ifs (.cmp .notin (.var 4) (.var 0)) [.ret (some (.tup [.cst (.str [78, 111, 72, 111, 117, 115, 101]), .var 4]))] [], .ifs (.cmp .notin (.var 5) (.var 0)) [.ret (some (.tup [.cst (.str [78, 111, 72, 111, 117, 115, 101]), .var 5]))] [], .ifs (.cmp .eq (.var 4) (.var 5)) [.ret (some (.tup [.cst (.str [78, 111, 69, 97, 114]), .var 4, .var 5]))] []],
    .ret (some (.tup [.cst (.str [110, 111, 110, 101])]))]⟩
def f__law_fault : Fd := ⟨3, 7, [
    .asg [.nm 3] (.call "_law_take" [.var 0, .cst (.int 5)] [] [] [.pos 0, .pos 1]),
    .ifs (.cmp .eq (.var 3) (.cst (.int 0))) [.asg [.nm 4] (.idx (.lst false [.cst (.int 0), .cst (.int 1000000001), .bin .sub (.cst (.int 0)) (.call "_law_take" [.var 0, .cst (.int 50)] [] [] [.pos 0, .pos 1]), .bin .pow (.cst (.int 10)) (.cst (.int 40))]) (.call "_law_take" [.var 0, .cst (.int 4)] [] [] [.pos 0, .pos 1])), .exp (.bme .insert false (.var 1) [.call "_law_take" [.var 0, .bin .add (.blt .len false [.var 1]) (.cst (.int 1))] [] [] [.pos 0, .pos 1], .var 4])] [],
    .ifs (.and (.cmp .eq (.var 3) (.cst (.int 1))) (.var 1)) [.exp (.bme .insert false (.var 1) [.call "_law_take" [.var 0, .bin .add (.blt .len false [.var 1]) (.cst (.int 1))] [] [] [.pos 0, .pos 1], .idx (.var 1) (.call "_law_take" [.var 0, .blt .len false [.var 1]] [] [] [.pos 0, .pos 1])])] [],
    .ifs (.and (.cmp .gt (.var 3) (.cst (.int 1))) (.var 1)) [.asg [.nm 5] (.idx (.var 1) (.call "_law_take" [.var 0, .blt .len false [.var 1]] [] [] [.pos 0, .pos 1])), .asg [.nm 6] (.var 5), .ifs (.cmp .eq (.var 3) (.cst (.int 3))) [.asg [.nm 6] (.call "_law_stranger" [.var 0, .var 1] [] [] [.pos 0, .pos 1])] [], .ifs (.cmp .eq (.var 3) (.cst (.int 4))) [.mul [.nm 5, .nm 6] [.call "_law_stranger" [.var 0, .var 1] [] [] [.pos 0, .pos 1], .var 5]] [], .exp (.bme .insert false (.var 2) [.call "_law_take" [.var 0, .bin .add (.blt .len false [.var 2]) (.cst (.int 1))] [] [] [.pos 0, .pos 1], .tup [.var 5, .var 6]])] []]⟩
def f_law : Fd := ⟨1, 7, [
    .asg [.nm 1] (.call "_law_pot" [.var 0] [] [] [.pos 0]),
    .asg [.nm 2] (.call "_law_take" [.var 1, .cst (.int 7)] [] [] [.pos 0, .pos 1]),
    .asg [.nm 3] (.lst true []),
    .ifs (.cmp .eq (.call "_law_take" [.var 1, .cst (.int 8)] [] [] [.pos 0, .pos 1]) (.cst (.int 0))) [.asg [.nm 4] (.call "_law_folk" [.var 1, .bin .add (.cst (.int 38)) (.call "_law_take" [.var 1, .cst (.int 5)] [] [] [.pos 0, .pos 1])] [] [] [.pos 0, .pos 1])] [.asg [.nm 4] (.call "_law_folk" [.var 1, .var 2] [] [] [.pos 0, .pos 1]), .asg [.nm 3] (.call "_law_ears" [.var 1, .var 4, .cst (.int 2)] [] [] [.pos 0, .pos 1, .pos 2])],
    .for (.nm 5) (.rng (.call "_law_take" [.var 1, .cst (.int 5)] [] [] [.pos 0, .pos 1])) [.exp (.call "_law_fault" [.var 1, .var 4, .var 3] [] [] [.pos 0, .pos 1, .pos 2])],
    .asg [.nm 6] (.call "_law_due" [.var 4, .var 3] [] [] [.pos 0, .pos 1]),
    .ret (some (.call "_law_same" [.why "_law_why" [("NoHouse", [78, 111, 72, 111, 117, 115, 101], ["house"]), ("Twice", [84, 119, 105, 99, 101], ["house"]), ("NoEar", [78, 111, 69, 97, 114], ["speaker", "listener"]), ("BadNumber", [66, 97, 100, 78, 117, 109, 98, 101, 114], []), ("TooMany", [84, 111, 111, 77, 97, 110, 121], ["bound"]), ("AirError", [65, 105, 114, 69, 114, 114, 111, 114], [])] (.make "Field" [.blt .list false [.var 4], .blt .list false [.var 3]] ["both"] [.cst (.bl false)] [.pos 0, .pos 1, .kw 0]), .var 6] [] [] [.pos 0, .pos 1]))]⟩
def fnT : String → Option Fd
  | "Field.__init__" => some f_Field_init
  | "Field.check" => some f_Field_check
  | "Field.check_ear" => some f_Field_check_ear
  | "_law_pot" => some f__law_pot
  | "_law_take" => some f__law_take
  | "_law_same" => some f__law_same
  | "_law_folk" => some f__law_folk
  | "_law_ears" => some f__law_ears
  | "_law_stranger" => some f__law_stranger
  | "_law_due" => some f__law_due
  | "_law_fault" => some f__law_fault
  | "law" => some f_law
  | _ => none
def subT : String → String → Bool
  | "TooMany", "TooMany" => true
  | "TooMany", "AirError" => true
  | "BadNumber", "BadNumber" => true
  | "BadNumber", "AirError" => true
  | "Twice", "Twice" => true
  | "Twice", "AirError" => true
  | "NoHouse", "NoHouse" => true
  | "NoHouse", "AirError" => true
  | "NoEar", "NoEar" => true
  | "NoEar", "AirError" => true
  | _, _ => false
def G : Pg := ⟨fnT, subT, 10 ^ 60⟩
def glbT : String → D → Bool
  | "MOST_HOUSES", .int 40 => true
  | "MOST_NUMBER", .int 1000000000 => true
  | _, _ => false
def callT : String → Nat → List String → List Src → Bool
  | "_law_same", 2, [], [.pos 0, .pos 1] => true
  | "_law_take", 2, [], [.pos 0, .pos 1] => true
  | "_law_stranger", 2, [], [.pos 0, .pos 1] => true
  | "_law_pot", 1, [], [.pos 0] => true
  | "_law_folk", 2, [], [.pos 0, .pos 1] => true
  | "_law_ears", 3, [], [.pos 0, .pos 1, .pos 2] => true
  | "_law_fault", 3, [], [.pos 0, .pos 1, .pos 2] => true
  | "_law_due", 2, [], [.pos 0, .pos 1] => true
  | _, _, _, _ => false
def fldT : String → String → Bool
  | "Field", "folk" => true
  | "Field", "pairs" => true
  | _, _ => false
def methT : String → String → Nat → List String → List Src → Bool
  | "Field", "check_ear", 2, [], [.pos 0, .pos 1] => true
  | "Field", "check", 1, [], [.pos 0] => true
  | _, _, _, _, _ => false
def makeT : String → Nat → List String → List Src → Bool
  | "Field", 2, ["both"], [.pos 0, .pos 1, .kw 0] => true
  | _, _, _, _ => false
def excT : String → List String → Bool
  | "TooMany", ["bound"] => true
  | "BadNumber", [] => true
  | "Twice", ["house"] => true
  | "NoHouse", ["house"] => true
  | "NoEar", ["speaker", "listener"] => true
  | _, _ => false
def top (i : Nat) : Stmt := PySem.Challenge.pw_earshot_k07_fields_refused.main.body.getD i (.Pass ⟨0, 0, 0, 0⟩)
def T0 : Tx := ⟨[], glbT, callT, fldT, methT, makeT, excT, fun _ _ => false, Str.empty⟩
def Nf_Field_init : List Str := [("self" : Str), ("houses" : Str), ("ears" : Str), ("both" : Str), ("house" : Str), ("speaker" : Str), ("listener" : Str)]
def Tf_Field_init : Tx := { T0 with N := Nf_Field_init }
def Df_Field_init : He.DefD := ⟨("Field", some "__init__"), "__init__", "Field.__init__", defArgs (inClass (top 13) 0), defBody (inClass (top 13) 0), defScope (inClass (top 13) 0), [.adr (He.dflAt ("Field", some "__init__") 0), .adr (He.dflAt ("Field", some "__init__") 1)], [("both", .bl true)]⟩
theorem Sf_Field_init : FnScope Nf_Field_init [("self" : Str), ("houses" : Str), ("ears" : Str), ("both" : Str)] (defScope (inClass (top 13) 0)) := ⟨rfl, rfl, rfl, by decide +kernel, rfl, by decide +kernel, by decide +kernel⟩
theorem Cf_Field_init : chkSs Tf_Field_init (defScope (inClass (top 13) 0)) f_Field_init.body (defBody (inClass (top 13) 0)) = true := by kernel_rfl
def Nf_Field_check : List Str := [("self" : Str), ("house" : Str)]
def Tf_Field_check : Tx := { T0 with N := Nf_Field_check }
def Df_Field_check : He.DefD := ⟨("Field", some "check"), "check", "Field.check", defArgs (inClass (top 13) 1), defBody (inClass (top 13) 1), defScope (inClass (top 13) 1), [], []⟩
theorem Sf_Field_check : FnScope Nf_Field_check [("self" : Str), ("house" : Str)] (defScope (inClass (top 13) 1)) := ⟨rfl, rfl, rfl, by decide +kernel, rfl, by decide +kernel, by decide +kernel⟩
theorem Cf_Field_check : chkSs Tf_Field_check (defScope (inClass (top 13) 1)) f_Field_check.body (defBody (inClass (top 13) 1)) = true := by kernel_rfl
def Nf_Field_check_ear : List Str := [("self" : Str), ("speaker" : Str), ("listener" : Str)]
def Tf_Field_check_ear : Tx := { T0 with N := Nf_Field_check_ear }
def Df_Field_check_ear : He.DefD := ⟨("Field", some "check_ear"), "check_ear", "Field.check_ear", defArgs (inClass (top 13) 2), defBody (inClass (top 13) 2), defScope (inClass (top 13) 2), [], []⟩
theorem Sf_Field_check_ear : FnScope Nf_Field_check_ear [("self" : Str), ("speaker" : Str), ("listener" : Str)] (defScope (inClass (top 13) 2)) := ⟨rfl, rfl, rfl, by decide +kernel, rfl, by decide +kernel, by decide +kernel⟩
theorem Cf_Field_check_ear : chkSs Tf_Field_check_ear (defScope (inClass (top 13) 2)) f_Field_check_ear.body (defBody (inClass (top 13) 2)) = true := by kernel_rfl
def Nf__law_pot : List Str := [("_law_script" : Str), ("_law_cells" : Str), ("_law_cell" : Str)]
def Tf__law_pot : Tx := { T0 with N := Nf__law_pot }
def Df__law_pot : He.DefD := ⟨("_law_pot", none), "_law_pot", "_law_pot", defArgs (top 15), defBody (top 15), defScope (top 15), [], []⟩
theorem Sf__law_pot : FnScope Nf__law_pot [("_law_script" : Str)] (defScope (top 15)) := ⟨rfl, rfl, rfl, by decide +kernel, rfl, by decide +kernel, by decide +kernel⟩
theorem Cf__law_pot : chkSs Tf__law_pot (defScope (top 15)) f__law_pot.body (defBody (top 15)) = true := by kernel_rfl
def Nf__law_take : List Str := [("_law_pot_here" : Str), ("_law_many" : Str), ("_law_cell" : Str)]
def Tf__law_take : Tx := { T0 with N := Nf__law_take }
def Df__law_take : He.DefD := ⟨("_law_take", none), "_law_take", "_law_take", defArgs (top 16), defBody (top 16), defScope (top 16), [], []⟩
theorem Sf__law_take : FnScope Nf__law_take [("_law_pot_here" : Str), ("_law_many" : Str)] (defScope (top 16)) := ⟨rfl, rfl, rfl, by decide +kernel, rfl, by decide +kernel, by decide +kernel⟩
theorem Cf__law_take : chkSs Tf__law_take (defScope (top 16)) f__law_take.body (defBody (top 16)) = true := by kernel_rfl
def Nf__law_same : List Str := [("_law_found" : Str), ("_law_due_here" : Str), ("_law_one" : Str), ("_law_other" : Str)]
def Tf__law_same : Tx := { T0 with N := Nf__law_same }
def Df__law_same : He.DefD := ⟨("_law_same", none), "_law_same", "_law_same", defArgs (top 17), defBody (top 17), defScope (top 17), [], []⟩
theorem Sf__law_same : FnScope Nf__law_same [("_law_found" : Str), ("_law_due_here" : Str)] (defScope (top 17)) := ⟨rfl, rfl, rfl, by decide +kernel, rfl, by decide +kernel, by decide +kernel⟩
theorem Cf__law_same : chkSs Tf__law_same (defScope (top 17)) f__law_same.body (defBody (top 17)) = true := by kernel_rfl
def Nf__law_folk : List Str := [("_law_pot_here" : Str), ("_law_many" : Str), ("_law_found" : Str), ("_law_at" : Str), ("_law_k" : Str)]
def Tf__law_folk : Tx := { T0 with N := Nf__law_folk }
def Df__law_folk : He.DefD := ⟨("_law_folk", none), "_law_folk", "_law_folk", defArgs (top 18), defBody (top 18), defScope (top 18), [], []⟩
theorem Sf__law_folk : FnScope Nf__law_folk [("_law_pot_here" : Str), ("_law_many" : Str)] (defScope (top 18)) := ⟨rfl, rfl, rfl, by decide +kernel, rfl, by decide +kernel, by decide +kernel⟩
theorem Cf__law_folk : chkSs Tf__law_folk (defScope (top 18)) f__law_folk.body (defBody (top 18)) = true := by kernel_rfl
def Nf__law_ears : List Str := [("_law_pot_here" : Str), ("_law_folk_here" : Str), ("_law_thick" : Str), ("_law_found" : Str), ("_law_one" : Str), ("_law_other" : Str)]
def Tf__law_ears : Tx := { T0 with N := Nf__law_ears }
def Df__law_ears : He.DefD := ⟨("_law_ears", none), "_law_ears", "_law_ears", defArgs (top 19), defBody (top 19), defScope (top 19), [], []⟩
theorem Sf__law_ears : FnScope Nf__law_ears [("_law_pot_here" : Str), ("_law_folk_here" : Str), ("_law_thick" : Str)] (defScope (top 19)) := ⟨rfl, rfl, rfl, by decide +kernel, rfl, by decide +kernel, by decide +kernel⟩
theorem Cf__law_ears : chkSs Tf__law_ears (defScope (top 19)) f__law_ears.body (defBody (top 19)) = true := by kernel_rfl
def Nf__law_stranger : List Str := [("_law_pot_here" : Str), ("_law_folk_here" : Str), ("_law_found" : Str)]
def Tf__law_stranger : Tx := { T0 with N := Nf__law_stranger }
def Df__law_stranger : He.DefD := ⟨("_law_stranger", none), "_law_stranger", "_law_stranger", defArgs (top 20), defBody (top 20), defScope (top 20), [], []⟩
theorem Sf__law_stranger : FnScope Nf__law_stranger [("_law_pot_here" : Str), ("_law_folk_here" : Str)] (defScope (top 20)) := ⟨rfl, rfl, rfl, by decide +kernel, rfl, by decide +kernel, by decide +kernel⟩
theorem Cf__law_stranger : chkSs Tf__law_stranger (defScope (top 20)) f__law_stranger.body (defBody (top 20)) = true := by kernel_rfl
def Nf__law_due : List Str := [("_law_folk_here" : Str), ("_law_ears_here" : Str), ("_law_at" : Str), ("_law_house" : Str), ("_law_speaker" : Str), ("_law_listener" : Str)]
def Tf__law_due : Tx := { T0 with N := Nf__law_due }
def Df__law_due : He.DefD := ⟨("_law_due", none), "_law_due", "_law_due", defArgs (top 21), defBody (top 21), defScope (top 21), [], []⟩
theorem Sf__law_due : FnScope Nf__law_due [("_law_folk_here" : Str), ("_law_ears_here" : Str)] (defScope (top 21)) := ⟨rfl, rfl, rfl, by decide +kernel, rfl, by decide +kernel, by decide +kernel⟩
theorem Cf__law_due : chkSs Tf__law_due (defScope (top 21)) f__law_due.body (defBody (top 21)) = true := by kernel_rfl
def Nf__law_fault : List Str := [("_law_pot_here" : Str), ("_law_folk_here" : Str), ("_law_ears_here" : Str), ("_law_kind" : Str), ("_law_bad" : Str), ("_law_one" : Str), ("_law_other" : Str)]
def Tf__law_fault : Tx := { T0 with N := Nf__law_fault }
def Df__law_fault : He.DefD := ⟨("_law_fault", none), "_law_fault", "_law_fault", defArgs (top 22), defBody (top 22), defScope (top 22), [], []⟩
theorem Sf__law_fault : FnScope Nf__law_fault [("_law_pot_here" : Str), ("_law_folk_here" : Str), ("_law_ears_here" : Str)] (defScope (top 22)) := ⟨rfl, rfl, rfl, by decide +kernel, rfl, by decide +kernel, by decide +kernel⟩
theorem Cf__law_fault : chkSs Tf__law_fault (defScope (top 22)) f__law_fault.body (defBody (top 22)) = true := by kernel_rfl
def Nf_law : List Str := [("_law_script" : Str), ("_law_pot_here" : Str), ("_law_many" : Str), ("_law_ears_here" : Str), ("_law_folk_here" : Str), ("_law_turn" : Str), ("_law_due_here" : Str)]
def Tf_law : Tx := { T0 with N := Nf_law, why := fun g ws => (decide (g = "_law_why") && decide (ws = [("NoHouse", [78, 111, 72, 111, 117, 115, 101], ["house"]), ("Twice", [84, 119, 105, 99, 101], ["house"]), ("NoEar", [78, 111, 69, 97, 114], ["speaker", "listener"]), ("BadNumber", [66, 97, 100, 78, 117, 109, 98, 101, 114], []), ("TooMany", [84, 111, 111, 77, 97, 110, 121], ["bound"]), ("AirError", [65, 105, 114, 69, 114, 114, 111, 114], [])])) }
def Df_law : He.DefD := ⟨("law", none), "law", "law", defArgs (top 24), defBody (top 24), defScope (top 24), [], []⟩
theorem Sf_law : FnScope Nf_law [("_law_script" : Str)] (defScope (top 24)) := ⟨rfl, rfl, rfl, by decide +kernel, rfl, by decide +kernel, by decide +kernel⟩
theorem Cf_law : chkSs Tf_law (defScope (top 24)) f_law.body (defBody (top 24)) = true := by kernel_rfl
def Df__law_why : He.DefD := ⟨("_law_why", none), "_law_why", "_law_why", defArgs (top 23), defBody (top 23), defScope (top 23), [], []⟩
def Nf__law_why : List Str := [("_law_act" : Str), ("e" : Str)]
theorem Sf__law_why : FnScope Nf__law_why [("_law_act" : Str)] (defScope (top 23)) := ⟨rfl, rfl, rfl, by decide +kernel, rfl, by decide +kernel, by decide +kernel⟩
theorem Bf__law_why : whyB Nf__law_why (defScope (top 23)) ("_law_act" : Str) [("NoHouse", [78, 111, 72, 111, 117, 115, 101], ["house"]), ("Twice", [84, 119, 105, 99, 101], ["house"]), ("NoEar", [78, 111, 69, 97, 114], ["speaker", "listener"]), ("BadNumber", [66, 97, 100, 78, 117, 109, 98, 101, 114], []), ("TooMany", [84, 111, 111, 77, 97, 110, 121], ["bound"]), ("AirError", [65, 105, 114, 69, 114, 114, 111, 114], [])] (defBody (top 23)) = true := by kernel_rfl
def Df_TooMany_init : He.DefD := ⟨("TooMany", some "__init__"), "__init__", "TooMany.__init__", defArgs (inClass (top 9) 0), defBody (inClass (top 9) 0), defScope (inClass (top 9) 0), [], []⟩
theorem Sf_TooMany_init : FnScope [("self" : Str), ("bound" : Str)] [("self" : Str), ("bound" : Str)] (defScope (inClass (top 9) 0)) := ⟨rfl, rfl, rfl, by decide +kernel, rfl, by decide +kernel, by decide +kernel⟩
theorem If_TooMany_init : initB [("self" : Str), ("bound" : Str)] (defBody (inClass (top 9) 0)) = true := by kernel_rfl
def Df_Twice_init : He.DefD := ⟨("Twice", some "__init__"), "__init__", "Twice.__init__", defArgs (inClass (top 6) 0), defBody (inClass (top 6) 0), defScope (inClass (top 6) 0), [], []⟩
theorem Sf_Twice_init : FnScope [("self" : Str), ("house" : Str)] [("self" : Str), ("house" : Str)] (defScope (inClass (top 6) 0)) := ⟨rfl, rfl, rfl, by decide +kernel, rfl, by decide +kernel, by decide +kernel⟩
theorem If_Twice_init : initB [("self" : Str), ("house" : Str)] (defBody (inClass (top 6) 0)) = true := by kernel_rfl
def Df_NoHouse_init : He.DefD := ⟨("NoHouse", some "__init__"), "__init__", "NoHouse.__init__", defArgs (inClass (top 5) 0), defBody (inClass (top 5) 0), defScope (inClass (top 5) 0), [], []⟩
theorem Sf_NoHouse_init : FnScope [("self" : Str), ("house" : Str)] [("self" : Str), ("house" : Str)] (defScope (inClass (top 5) 0)) := ⟨rfl, rfl, rfl, by decide +kernel, rfl, by decide +kernel, by decide +kernel⟩
theorem If_NoHouse_init : initB [("self" : Str), ("house" : Str)] (defBody (inClass (top 5) 0)) = true := by kernel_rfl
def Df_NoEar_init : He.DefD := ⟨("NoEar", some "__init__"), "__init__", "NoEar.__init__", defArgs (inClass (top 7) 0), defBody (inClass (top 7) 0), defScope (inClass (top 7) 0), [], []⟩
theorem Sf_NoEar_init : FnScope [("self" : Str), ("speaker" : Str), ("listener" : Str)] [("self" : Str), ("speaker" : Str), ("listener" : Str)] (defScope (inClass (top 7) 0)) := ⟨rfl, rfl, rfl, by decide +kernel, rfl, by decide +kernel, by decide +kernel⟩
theorem If_NoEar_init : initB [("self" : Str), ("speaker" : Str), ("listener" : Str)] (defBody (inClass (top 7) 0)) = true := by kernel_rfl
def fn : List He.DefD := [Df_Field_init, Df_Field_check, Df_Field_check_ear, Df__law_pot, Df__law_take, Df__law_same, Df__law_folk, Df__law_ears, Df__law_stranger, Df__law_due, Df__law_fault, Df_law, Df__law_why, Df_TooMany_init, Df_Twice_init, Df_NoHouse_init, Df_NoEar_init]
def fa : List He.Fa := [.free (sOf "len"), .free (sOf "abs"), .free (sOf "list"), .free (sOf "tuple"), .free (sOf "dict"), .free (sOf "sum"), .free (sOf "any"), .free (sOf "all"), .free (sOf "min"), .free (sOf "max"), .free (sOf "sorted"), .free (sOf "int"), .free (sOf "str"), .free (sOf "bool"), .free (sOf "isinstance"), .free (sOf "range"), .free (sOf "enumerate"), .free (sOf "zip"), .meth "TooMany" "__init__", .glo "TooMany", .noat "TooMany" "bound", .exc "BadNumber", .glo "BadNumber", .meth "Twice" "__init__", .glo "Twice", .noat "Twice" "house", .meth "NoHouse" "__init__", .glo "NoHouse", .noat "NoHouse" "house", .meth "NoEar" "__init__", .glo "NoEar", .noat "NoEar" "speaker", .noat "NoEar" "listener", .glo "_law_why", .glo "AirError", .exm "TooMany" "NoHouse" false, .exm "TooMany" "Twice" false, .exm "TooMany" "NoEar" false, .exm "TooMany" "BadNumber" false, .exm "TooMany" "TooMany" true, .exm "TooMany" "AirError" true, .exm "BadNumber" "NoHouse" false, .exm "BadNumber" "Twice" false, .exm "BadNumber" "NoEar" false, .exm "BadNumber" "BadNumber" true, .exm "BadNumber" "TooMany" false, .exm "BadNumber" "AirError" true, .exm "Twice" "NoHouse" false, .exm "Twice" "Twice" true, .exm "Twice" "NoEar" false, .exm "Twice" "BadNumber" false, .exm "Twice" "TooMany" false, .exm "Twice" "AirError" true, .exm "NoHouse" "NoHouse" true, .exm "NoHouse" "Twice" false, .exm "NoHouse" "NoEar" false, .exm "NoHouse" "BadNumber" false, .exm "NoHouse" "TooMany" false, .exm "NoHouse" "AirError" true, .exm "NoEar" "NoHouse" false, .exm "NoEar" "Twice" false, .exm "NoEar" "NoEar" true, .exm "NoEar" "BadNumber" false, .exm "NoEar" "TooMany" false, .exm "NoEar" "AirError" true, .int "MOST_HOUSES" 40, .int "MOST_NUMBER" 1000000000, .glo "_law_same", .glo "_law_take", .glo "_law_stranger", .glo "_law_pot", .glo "_law_folk", .glo "_law_ears", .glo "_law_fault", .glo "_law_due", .cls "Field", .noat "Field" "folk", .noat "Field" "pairs", .meth "Field" "check_ear", .meth "Field" "check", .glo "Field", .mkr "Field", .glo "law"]
def exB (K : PySem.W.Frag) : Bool := oexB K (He.ga K "TooMany") && oexB K (He.ga K "Twice") && oexB K (He.ga K "NoHouse") && oexB K (He.ga K "NoEar") && xfB K (He.ga K "NoHouse") && xfB K (He.ga K "Twice") && xfB K (He.ga K "NoEar") && xfB K (He.ga K "TooMany")
def tf : List He.Defn := [("law", none)]
def tbs (K : PySem.W.Frag) : List (Addr × Str) := [((He.cT K ("law", none)).2, ("law" : Str) ++ ".<locals>." ++ "<lambda>")]
def Mn (K : PySem.W.Frag) : Nm := ⟨fun c => He.ga K (sOf c), tbs K, ["TooMany", "BadNumber", "Twice", "NoHouse", "NoEar"]⟩
end K07

set_option Elab.async false
set_option linter.all false
set_option maxRecDepth 100000
set_option maxHeartbeats 400000
namespace K07
open PySem PySem.Spec PyProof.Rows L2 Fn
section
variable {P : Program} {w : World} {K : PySem.W.Frag} {mg : Str → Option Value} {base h : Heap} {df_Field_init df_Field_check df_Field_check_ear df__law_pot df__law_take df__law_same df__law_folk df__law_ears df__law_stranger df__law_due df__law_fault df_law df__law_why df_TooMany_init df_Twice_init df_NoHouse_init df_NoEar_init : FuncData}
abbrev Fs (K : PySem.W.Frag) (df_Field_init df_Field_check df_Field_check_ear df__law_pot df__law_take df__law_same df__law_folk df__law_ears df__law_stranger df__law_due df__law_fault df_law df__law_why df_TooMany_init df_Twice_init df_NoHouse_init df_NoEar_init : FuncData) : Prop := FunD K Df_Field_init.name Df_Field_init.qual Df_Field_init.params Df_Field_init.body Df_Field_init.scope (Df_Field_init.dvs K) (Df_Field_init.kws K) (He.fAd K Df_Field_init.at_) df_Field_init ∧
  FunD K Df_Field_check.name Df_Field_check.qual Df_Field_check.params Df_Field_check.body Df_Field_check.scope (Df_Field_check.dvs K) (Df_Field_check.kws K) (He.fAd K Df_Field_check.at_) df_Field_check ∧
  FunD K Df_Field_check_ear.name Df_Field_check_ear.qual Df_Field_check_ear.params Df_Field_check_ear.body Df_Field_check_ear.scope (Df_Field_check_ear.dvs K) (Df_Field_check_ear.kws K) (He.fAd K Df_Field_check_ear.at_) df_Field_check_ear ∧
  FunD K Df__law_pot.name Df__law_pot.qual Df__law_pot.params Df__law_pot.body Df__law_pot.scope (Df__law_pot.dvs K) (Df__law_pot.kws K) (He.fAd K Df__law_pot.at_) df__law_pot ∧
  FunD K Df__law_take.name Df__law_take.qual Df__law_take.params Df__law_take.body Df__law_take.scope (Df__law_take.dvs K) (Df__law_take.kws K) (He.fAd K Df__law_take.at_) df__law_take ∧
  FunD K Df__law_same.name Df__law_same.qual Df__law_same.params Df__law_same.body Df__law_same.scope (Df__law_same.dvs K) (Df__law_same.kws K) (He.fAd K Df__law_same.at_) df__law_same ∧
  FunD K Df__law_folk.name Df__law_folk.qual Df__law_folk.params Df__law_folk.body Df__law_folk.scope (Df__law_folk.dvs K) (Df__law_folk.kws K) (He.fAd K Df__law_folk.at_) df__law_folk ∧
  FunD K Df__law_ears.name Df__law_ears.qual Df__law_ears.params Df__law_ears.body Df__law_ears.scope (Df__law_ears.dvs K) (Df__law_ears.kws K) (He.fAd K Df__law_ears.at_) df__law_ears ∧
  FunD K Df__law_stranger.name Df__law_stranger.qual Df__law_stranger.params Df__law_stranger.body Df__law_stranger.scope (Df__law_stranger.dvs K) (Df__law_stranger.kws K) (He.fAd K Df__law_stranger.at_) df__law_stranger ∧
  FunD K Df__law_due.name Df__law_due.qual Df__law_due.params Df__law_due.body Df__law_due.scope (Df__law_due.dvs K) (Df__law_due.kws K) (He.fAd K Df__law_due.at_) df__law_due ∧
  FunD K Df__law_fault.name Df__law_fault.qual Df__law_fault.params Df__law_fault.body Df__law_fault.scope (Df__law_fault.dvs K) (Df__law_fault.kws K) (He.fAd K Df__law_fault.at_) df__law_fault ∧
  FunD K Df_law.name Df_law.qual Df_law.params Df_law.body Df_law.scope (Df_law.dvs K) (Df_law.kws K) (He.fAd K Df_law.at_) df_law ∧
  FunD K Df__law_why.name Df__law_why.qual Df__law_why.params Df__law_why.body Df__law_why.scope (Df__law_why.dvs K) (Df__law_why.kws K) (He.fAd K Df__law_why.at_) df__law_why ∧
  FunD K Df_TooMany_init.name Df_TooMany_init.qual Df_TooMany_init.params Df_TooMany_init.body Df_TooMany_init.scope (Df_TooMany_init.dvs K) (Df_TooMany_init.kws K) (He.fAd K Df_TooMany_init.at_) df_TooMany_init ∧
  FunD K Df_Twice_init.name Df_Twice_init.qual Df_Twice_init.params Df_Twice_init.body Df_Twice_init.scope (Df_Twice_init.dvs K) (Df_Twice_init.kws K) (He.fAd K Df_Twice_init.at_) df_Twice_init ∧
  FunD K Df_NoHouse_init.name Df_NoHouse_init.qual Df_NoHouse_init.params Df_NoHouse_init.body Df_NoHouse_init.scope (Df_NoHouse_init.dvs K) (Df_NoHouse_init.kws K) (He.fAd K Df_NoHouse_init.at_) df_NoHouse_init ∧
  FunD K Df_NoEar_init.name Df_NoEar_init.qual Df_NoEar_init.params Df_NoEar_init.body Df_NoEar_init.scope (Df_NoEar_init.dvs K) (Df_NoEar_init.kws K) (He.fAd K Df_NoEar_init.at_) df_NoEar_init
theorem excs (X : K.In h) (Gh : h.Ns mainGlobals mg) (c : He.SaysD fa fn K) (e : exB K = true) (FF : Fs K df_Field_init df_Field_check df_Field_check_ear df__law_pot df__law_take df__law_same df__law_folk df__law_ears df__law_stranger df__law_due df__law_fault df_law df__law_why df_TooMany_init df_Twice_init df_NoHouse_init df_NoEar_init) (n : Nat) : ∀ c fs, excT c fs = true → mg (sOf c) = some (.ref ((Mn K).cls c)) ∧ c ∈ (Mn K).ex ∧ fs.Nodup ∧ ExcOk P w K mg base (Mn K) (n + 1) c fs := by
  obtain ⟨Ff_Field_init, Ff_Field_check, Ff_Field_check_ear, Ff__law_pot, Ff__law_take, Ff__law_same, Ff__law_folk, Ff__law_ears, Ff__law_stranger, Ff__law_due, Ff__law_fault, Ff_law, Ff__law_why, Ff_TooMany_init, Ff_Twice_init, Ff_NoHouse_init, Ff_NoEar_init⟩ := FF
  simp only [exB, Bool.and_eq_true] at e
  obtain ⟨⟨⟨⟨⟨⟨⟨oexB_TooMany, oexB_Twice⟩, oexB_NoHouse⟩, oexB_NoEar⟩, xfB_NoHouse⟩, xfB_Twice⟩, xfB_NoEar⟩, xfB_TooMany⟩ := e
  intro c0 fs hq
  unfold excT at hq
  split at hq
  · have hi := He.meth_ok (c.fact 18 (f := .meth "TooMany" "__init__") rfl)
    have ea : PySem.W.findIn K (.ref (He.ga K "TooMany")) "__init__" = some (some (.ref (He.fAd K Df_TooMany_init.at_))) := hi.at_
    refine ⟨He.glo_ok X Gh (c.fact 19 (f := .glo "TooMany") rfl), by simp [Mn], by decide, .full (by decide) (oexB_ok oexB_TooMany) ea (fn_ty hi.fn) (init_ok Ff_TooMany_init Sf_TooMany_init If_TooMany_init) (Ff_TooMany_init.bindsN fun _ _ _ _ _ _ us hl => match us, hl with | [_, _], _ => rfl) fun f hf => ?_⟩
    simp only [List.mem_cons, List.not_mem_nil, or_false] at hf
    rcases hf with rfl
    · exact He.noat_ok (c.fact 20 (f := .noat "TooMany" "bound") rfl)
  · obtain ⟨e1, e2, e3, e4⟩ := He.exc_ok (c.fact 21 (f := .exc "BadNumber") rfl)
    exact ⟨He.glo_ok X Gh (c.fact 22 (f := .glo "BadNumber") rfl), by simp [Mn], by decide, .bare e1 e2 e3 e4⟩
  · have hi := He.meth_ok (c.fact 23 (f := .meth "Twice" "__init__") rfl)
    have ea : PySem.W.findIn K (.ref (He.ga K "Twice")) "__init__" = some (some (.ref (He.fAd K Df_Twice_init.at_))) := hi.at_
    refine ⟨He.glo_ok X Gh (c.fact 24 (f := .glo "Twice") rfl), by simp [Mn], by decide, .full (by decide) (oexB_ok oexB_Twice) ea (fn_ty hi.fn) (init_ok Ff_Twice_init Sf_Twice_init If_Twice_init) (Ff_Twice_init.bindsN fun _ _ _ _ _ _ us hl => match us, hl with | [_, _], _ => rfl) fun f hf => ?_⟩
    simp only [List.mem_cons, List.not_mem_nil, or_false] at hf
    rcases hf with rfl
    · exact He.noat_ok (c.fact 25 (f := .noat "Twice" "house") rfl)
  · have hi := He.meth_ok (c.fact 26 (f := .meth "NoHouse" "__init__") rfl)
    have ea : PySem.W.findIn K (.ref (He.ga K "NoHouse")) "__init__" = some (some (.ref (He.fAd K Df_NoHouse_init.at_))) := hi.at_
    refine ⟨He.glo_ok X Gh (c.fact 27 (f := .glo "NoHouse") rfl), by simp [Mn], by decide, .full (by decide) (oexB_ok oexB_NoHouse) ea (fn_ty hi.fn) (init_ok Ff_NoHouse_init Sf_NoHouse_init If_NoHouse_init) (Ff_NoHouse_init.bindsN fun _ _ _ _ _ _ us hl => match us, hl with | [_, _], _ => rfl) fun f hf => ?_⟩
    simp only [List.mem_cons, List.not_mem_nil, or_false] at hf
    rcases hf with rfl
    · exact He.noat_ok (c.fact 28 (f := .noat "NoHouse" "house") rfl)
  · have hi := He.meth_ok (c.fact 29 (f := .meth "NoEar" "__init__") rfl)
    have ea : PySem.W.findIn K (.ref (He.ga K "NoEar")) "__init__" = some (some (.ref (He.fAd K Df_NoEar_init.at_))) := hi.at_
    refine ⟨He.glo_ok X Gh (c.fact 30 (f := .glo "NoEar") rfl), by simp [Mn], by decide, .full (by decide) (oexB_ok oexB_NoEar) ea (fn_ty hi.fn) (init_ok Ff_NoEar_init Sf_NoEar_init If_NoEar_init) (Ff_NoEar_init.bindsN fun _ _ _ _ _ _ us hl => match us, hl with | [_, _, _], _ => rfl) fun f hf => ?_⟩
    simp only [List.mem_cons, List.not_mem_nil, or_false] at hf
    rcases hf with rfl | rfl
    · exact He.noat_ok (c.fact 31 (f := .noat "NoEar" "speaker") rfl)
    · exact He.noat_ok (c.fact 32 (f := .noat "NoEar" "listener") rfl)
  · cases hq
theorem why_f_law_f__law_why (X : K.In h) (Gh : h.Ns mainGlobals mg) (c : He.SaysD fa fn K) (e : exB K = true) (FF : Fs K df_Field_init df_Field_check df_Field_check_ear df__law_pot df__law_take df__law_same df__law_folk df__law_ears df__law_stranger df__law_due df__law_fault df_law df__law_why df_TooMany_init df_Twice_init df_NoHouse_init df_NoEar_init) (tb : ∀ p ∈ tf, LamX.TabB base mg (He.cT K p).1 (He.cT K p).2) : WhyOk P K mg base (Mn K) subT df_law.code (Df_law.qual ++ ".<locals>.") "_law_why" [("NoHouse", [78, 111, 72, 111, 117, 115, 101], ["house"]), ("Twice", [84, 119, 105, 99, 101], ["house"]), ("NoEar", [78, 111, 69, 97, 114], ["speaker", "listener"]), ("BadNumber", [66, 97, 100, 78, 117, 109, 98, 101, 114], []), ("TooMany", [84, 111, 111, 77, 97, 110, 121], ["bound"]), ("AirError", [65, 105, 114, 69, 114, 114, 111, 114], [])] := by
  obtain ⟨Ff_Field_init, Ff_Field_check, Ff_Field_check_ear, Ff__law_pot, Ff__law_take, Ff__law_same, Ff__law_folk, Ff__law_ears, Ff__law_stranger, Ff__law_due, Ff__law_fault, Ff_law, Ff__law_why, Ff_TooMany_init, Ff_Twice_init, Ff_NoHouse_init, Ff_NoEar_init⟩ := FF
  simp only [exB, Bool.and_eq_true] at e
  obtain ⟨⟨⟨⟨⟨⟨⟨oexB_TooMany, oexB_Twice⟩, oexB_NoHouse⟩, oexB_NoEar⟩, xfB_NoHouse⟩, xfB_Twice⟩, xfB_NoEar⟩, xfB_TooMany⟩ := e
  have hcode := code_of (p := ("law", none)) Ff_law
  refine ⟨_, _, _, ("_law_act" : Str), _, _, _, _, Nf__law_why, He.glo_ok X Gh (c.fact 33 (f := .glo "_law_why") rfl), Ff__law_why, (Ff__law_why.bindsN fun _ _ _ _ _ _ us hl => match us, hl with | [_], _ => rfl), Sf__law_why, Bf__law_why, ⟨fun z hz => ?_, fun z hz hne => ?_⟩, fun x hx z hz => ?_, tb ("law", none) (by simp [tf]), hcode, ?_, ?_⟩
  · simp only [List.mem_cons, List.not_mem_nil, or_false] at hz
    rcases hz with rfl | rfl | rfl | rfl | rfl | rfl
    · exact He.glo_ok X Gh (c.fact 27 (f := .glo "NoHouse") rfl)
    · exact He.glo_ok X Gh (c.fact 24 (f := .glo "Twice") rfl)
    · exact He.glo_ok X Gh (c.fact 30 (f := .glo "NoEar") rfl)
    · exact He.glo_ok X Gh (c.fact 22 (f := .glo "BadNumber") rfl)
    · exact He.glo_ok X Gh (c.fact 19 (f := .glo "TooMany") rfl)
    · exact He.glo_ok X Gh (c.fact 34 (f := .glo "AirError") rfl)
  · simp only [List.mem_cons, List.not_mem_nil, or_false] at hz
    rcases hz with rfl | rfl | rfl | rfl | rfl | rfl
    · refine ⟨xfB_ok xfB_NoHouse, fun f hf => ?_⟩
      simp only [List.mem_cons, List.not_mem_nil, or_false] at hf
      rcases hf with rfl
      · exact He.noat_ok (c.fact 28 (f := .noat "NoHouse" "house") rfl)
    · refine ⟨xfB_ok xfB_Twice, fun f hf => ?_⟩
      simp only [List.mem_cons, List.not_mem_nil, or_false] at hf
      rcases hf with rfl
      · exact He.noat_ok (c.fact 25 (f := .noat "Twice" "house") rfl)
    · refine ⟨xfB_ok xfB_NoEar, fun f hf => ?_⟩
      simp only [List.mem_cons, List.not_mem_nil, or_false] at hf
      rcases hf with rfl | rfl
      · exact He.noat_ok (c.fact 31 (f := .noat "NoEar" "speaker") rfl)
      · exact He.noat_ok (c.fact 32 (f := .noat "NoEar" "listener") rfl)
    · exact absurd rfl hne
    · refine ⟨xfB_ok xfB_TooMany, fun f hf => ?_⟩
      simp only [List.mem_cons, List.not_mem_nil, or_false] at hf
      rcases hf with rfl
      · exact He.noat_ok (c.fact 20 (f := .noat "TooMany" "bound") rfl)
    · exact absurd rfl hne
  · simp only [Mn, List.mem_cons, List.not_mem_nil, or_false] at hx
    simp only [List.mem_cons, List.not_mem_nil, or_false] at hz
    rcases hx with rfl | rfl | rfl | rfl | rfl <;> rcases hz with rfl | rfl | rfl | rfl | rfl | rfl
    · exact He.exm_ok (c.fact 35 (f := .exm "TooMany" "NoHouse" false) rfl)
    · exact He.exm_ok (c.fact 36 (f := .exm "TooMany" "Twice" false) rfl)
    · exact He.exm_ok (c.fact 37 (f := .exm "TooMany" "NoEar" false) rfl)
    · exact He.exm_ok (c.fact 38 (f := .exm "TooMany" "BadNumber" false) rfl)
    · exact He.exm_ok (c.fact 39 (f := .exm "TooMany" "TooMany" true) rfl)
    · exact He.exm_ok (c.fact 40 (f := .exm "TooMany" "AirError" true) rfl)
    · exact He.exm_ok (c.fact 41 (f := .exm "BadNumber" "NoHouse" false) rfl)
    · exact He.exm_ok (c.fact 42 (f := .exm "BadNumber" "Twice" false) rfl)
    · exact He.exm_ok (c.fact 43 (f := .exm "BadNumber" "NoEar" false) rfl)
    · exact He.exm_ok (c.fact 44 (f := .exm "BadNumber" "BadNumber" true) rfl)
    · exact He.exm_ok (c.fact 45 (f := .exm "BadNumber" "TooMany" false) rfl)
    · exact He.exm_ok (c.fact 46 (f := .exm "BadNumber" "AirError" true) rfl)
    · exact He.exm_ok (c.fact 47 (f := .exm "Twice" "NoHouse" false) rfl)
    · exact He.exm_ok (c.fact 48 (f := .exm "Twice" "Twice" true) rfl)
    · exact He.exm_ok (c.fact 49 (f := .exm "Twice" "NoEar" false) rfl)
    · exact He.exm_ok (c.fact 50 (f := .exm "Twice" "BadNumber" false) rfl)
    · exact He.exm_ok (c.fact 51 (f := .exm "Twice" "TooMany" false) rfl)
    · exact He.exm_ok (c.fact 52 (f := .exm "Twice" "AirError" true) rfl)
    · exact He.exm_ok (c.fact 53 (f := .exm "NoHouse" "NoHouse" true) rfl)
    · exact He.exm_ok (c.fact 54 (f := .exm "NoHouse" "Twice" false) rfl)
    · exact He.exm_ok (c.fact 55 (f := .exm "NoHouse" "NoEar" false) rfl)
    · exact He.exm_ok (c.fact 56 (f := .exm "NoHouse" "BadNumber" false) rfl)
    · exact He.exm_ok (c.fact 57 (f := .exm "NoHouse" "TooMany" false) rfl)
    · exact He.exm_ok (c.fact 58 (f := .exm "NoHouse" "AirError" true) rfl)
    · exact He.exm_ok (c.fact 59 (f := .exm "NoEar" "NoHouse" false) rfl)
    · exact He.exm_ok (c.fact 60 (f := .exm "NoEar" "Twice" false) rfl)
    · exact He.exm_ok (c.fact 61 (f := .exm "NoEar" "NoEar" true) rfl)
    · exact He.exm_ok (c.fact 62 (f := .exm "NoEar" "BadNumber" false) rfl)
    · exact He.exm_ok (c.fact 63 (f := .exm "NoEar" "TooMany" false) rfl)
    · exact He.exm_ok (c.fact 64 (f := .exm "NoEar" "AirError" true) rfl)
  · simp [Mn, tbs, Df_law]
  · intro p hp hq
    simp only [Mn, tbs, List.mem_cons, List.not_mem_nil, or_false] at hp
    subst hp
    rfl
theorem lvl (X : K.In h) (Gh : h.Ns mainGlobals mg) (c : He.SaysD fa fn K) (e : exB K = true) (FF : Fs K df_Field_init df_Field_check df_Field_check_ear df__law_pot df__law_take df__law_same df__law_folk df__law_ears df__law_stranger df__law_due df__law_fault df_law df__law_why df_TooMany_init df_Twice_init df_NoHouse_init df_NoEar_init) (tb : ∀ p ∈ tf, LamX.TabB base mg (He.cT K p).1 (He.cT K p).2) : ∀ n : Nat, FnOk P w K mg base (L2.CX P w) (4 * n + 1) (He.fAd K ("Field", some "__init__")) df_Field_init [("self" : Str), ("houses" : Str), ("ears" : Str), ("both" : Str)] (spF K (Mn K) (run G n "Field.__init__")) ∧
    FnOk P w K mg base (L2.CX P w) (4 * n + 1) (He.fAd K ("Field", some "check")) df_Field_check [("self" : Str), ("house" : Str)] (spF K (Mn K) (run G n "Field.check")) ∧
    FnOk P w K mg base (L2.CX P w) (4 * n + 1) (He.fAd K ("Field", some "check_ear")) df_Field_check_ear [("self" : Str), ("speaker" : Str), ("listener" : Str)] (spF K (Mn K) (run G n "Field.check_ear")) ∧
    FnOk P w K mg base (L2.CX P w) (4 * n + 1) (He.fAd K ("_law_pot", none)) df__law_pot [("_law_script" : Str)] (spF K (Mn K) (run G n "_law_pot")) ∧
    FnOk P w K mg base (L2.CX P w) (4 * n + 1) (He.fAd K ("_law_take", none)) df__law_take [("_law_pot_here" : Str), ("_law_many" : Str)] (spF K (Mn K) (run G n "_law_take")) ∧
    FnOk P w K mg base (L2.CX P w) (4 * n + 1) (He.fAd K ("_law_same", none)) df__law_same [("_law_found" : Str), ("_law_due_here" : Str)] (spF K (Mn K) (run G n "_law_same")) ∧
    FnOk P w K mg base (L2.CX P w) (4 * n + 1) (He.fAd K ("_law_folk", none)) df__law_folk [("_law_pot_here" : Str), ("_law_many" : Str)] (spF K (Mn K) (run G n "_law_folk")) ∧
    FnOk P w K mg base (L2.CX P w) (4 * n + 1) (He.fAd K ("_law_ears", none)) df__law_ears [("_law_pot_here" : Str), ("_law_folk_here" : Str), ("_law_thick" : Str)] (spF K (Mn K) (run G n "_law_ears")) ∧
    FnOk P w K mg base (L2.CX P w) (4 * n + 1) (He.fAd K ("_law_stranger", none)) df__law_stranger [("_law_pot_here" : Str), ("_law_folk_here" : Str)] (spF K (Mn K) (run G n "_law_stranger")) ∧
    FnOk P w K mg base (L2.CX P w) (4 * n + 1) (He.fAd K ("_law_due", none)) df__law_due [("_law_folk_here" : Str), ("_law_ears_here" : Str)] (spF K (Mn K) (run G n "_law_due")) ∧
    FnOk P w K mg base (L2.CX P w) (4 * n + 1) (He.fAd K ("_law_fault", none)) df__law_fault [("_law_pot_here" : Str), ("_law_folk_here" : Str), ("_law_ears_here" : Str)] (spF K (Mn K) (run G n "_law_fault")) ∧
    FnOk P w K mg base (L2.CX P w) (4 * n + 1) (He.fAd K ("law", none)) df_law [("_law_script" : Str)] (spF K (Mn K) (run G n "law"))
  | 0 => ⟨fn_zero, fn_zero, fn_zero, fn_zero, fn_zero, fn_zero, fn_zero, fn_zero, fn_zero, fn_zero, fn_zero, fn_zero⟩
  | n + 1 => by
    obtain ⟨Af_Field_init, Af_Field_check, Af_Field_check_ear, Af__law_pot, Af__law_take, Af__law_same, Af__law_folk, Af__law_ears, Af__law_stranger, Af__law_due, Af__law_fault, Af_law⟩ := lvl X Gh c e FF tb n
    have FF' := FF
    obtain ⟨Ff_Field_init, Ff_Field_check, Ff_Field_check_ear, Ff__law_pot, Ff__law_take, Ff__law_same, Ff__law_folk, Ff__law_ears, Ff__law_stranger, Ff__law_due, Ff__law_fault, Ff_law, Ff__law_why, Ff_TooMany_init, Ff_Twice_init, Ff_NoHouse_init, Ff_NoEar_init⟩ := FF'
    have md : MdOk P w K mg base (Mn K) (run G n) (4 * n + 1) T0 := by
      refine ⟨?_, ?_, ?_, ?_, ?_, ?_, excs X Gh c e FF (4 * n)⟩
      · intro x d hq
        have hq : glbT x d = true := hq
        unfold glbT at hq
        split at hq
        · obtain ⟨t, ht⟩ := He.int_ok X Gh (c.fact 65 (f := .int "MOST_HOUSES" 40) rfl)
          exact ⟨.int 40, _, ht, ⟨t, rfl⟩, fun W => .int⟩
        · obtain ⟨t, ht⟩ := He.int_ok X Gh (c.fact 66 (f := .int "MOST_NUMBER" 1000000000) rfl)
          exact ⟨.int 1000000000, _, ht, ⟨t, rfl⟩, fun W => .int⟩
        · cases hq
      · intro x hx
        simp only [bltNs, List.mem_cons, List.not_mem_nil, or_false] at hx
        rcases hx with rfl | rfl | rfl | rfl | rfl | rfl | rfl | rfl | rfl | rfl | rfl | rfl | rfl | rfl | rfl | rfl | rfl | rfl
        · exact He.free_ok X Gh (c.fact 0 (f := .free (sOf "len")) rfl)
        · exact He.free_ok X Gh (c.fact 1 (f := .free (sOf "abs")) rfl)
        · exact He.free_ok X Gh (c.fact 2 (f := .free (sOf "list")) rfl)
        · exact He.free_ok X Gh (c.fact 3 (f := .free (sOf "tuple")) rfl)
        · exact He.free_ok X Gh (c.fact 4 (f := .free (sOf "dict")) rfl)
        · exact He.free_ok X Gh (c.fact 5 (f := .free (sOf "sum")) rfl)
        · exact He.free_ok X Gh (c.fact 6 (f := .free (sOf "any")) rfl)
        · exact He.free_ok X Gh (c.fact 7 (f := .free (sOf "all")) rfl)
        · exact He.free_ok X Gh (c.fact 8 (f := .free (sOf "min")) rfl)
        · exact He.free_ok X Gh (c.fact 9 (f := .free (sOf "max")) rfl)
        · exact He.free_ok X Gh (c.fact 10 (f := .free (sOf "sorted")) rfl)
        · exact He.free_ok X Gh (c.fact 11 (f := .free (sOf "int")) rfl)
        · exact He.free_ok X Gh (c.fact 12 (f := .free (sOf "str")) rfl)
        · exact He.free_ok X Gh (c.fact 13 (f := .free (sOf "bool")) rfl)
        · exact He.free_ok X Gh (c.fact 14 (f := .free (sOf "isinstance")) rfl)
        · exact He.free_ok X Gh (c.fact 15 (f := .free (sOf "range")) rfl)
        · exact He.free_ok X Gh (c.fact 16 (f := .free (sOf "enumerate")) rfl)
        · exact He.free_ok X Gh (c.fact 17 (f := .free (sOf "zip")) rfl)
      · intro f n ks pl hq
        have hq : callT f n ks pl = true := hq
        unfold callT at hq
        split at hq
        · exact ⟨_, He.glo_ok X Gh (c.fact 67 (f := .glo "_law_same") rfl), Ff__law_same.kp, callOk_all Af__law_same (Ff__law_same.bindsN fun _ _ _ _ _ _ us hl => match us, hl with | [_, _], _ => rfl) rfl fun ds es xs hl h => match ds, hl, h with | [a0, a1], _, h => by cases h; rfl⟩
        · exact ⟨_, He.glo_ok X Gh (c.fact 68 (f := .glo "_law_take") rfl), Ff__law_take.kp, callOk_all Af__law_take (Ff__law_take.bindsN fun _ _ _ _ _ _ us hl => match us, hl with | [_, _], _ => rfl) rfl fun ds es xs hl h => match ds, hl, h with | [a0, a1], _, h => by cases h; rfl⟩
        · exact ⟨_, He.glo_ok X Gh (c.fact 69 (f := .glo "_law_stranger") rfl), Ff__law_stranger.kp, callOk_all Af__law_stranger (Ff__law_stranger.bindsN fun _ _ _ _ _ _ us hl => match us, hl with | [_, _], _ => rfl) rfl fun ds es xs hl h => match ds, hl, h with | [a0, a1], _, h => by cases h; rfl⟩
        · exact ⟨_, He.glo_ok X Gh (c.fact 70 (f := .glo "_law_pot") rfl), Ff__law_pot.kp, callOk_all Af__law_pot (Ff__law_pot.bindsN fun _ _ _ _ _ _ us hl => match us, hl with | [_], _ => rfl) rfl fun ds es xs hl h => match ds, hl, h with | [a0], _, h => by cases h; rfl⟩
        · exact ⟨_, He.glo_ok X Gh (c.fact 71 (f := .glo "_law_folk") rfl), Ff__law_folk.kp, callOk_all Af__law_folk (Ff__law_folk.bindsN fun _ _ _ _ _ _ us hl => match us, hl with | [_, _], _ => rfl) rfl fun ds es xs hl h => match ds, hl, h with | [a0, a1], _, h => by cases h; rfl⟩
        · exact ⟨_, He.glo_ok X Gh (c.fact 72 (f := .glo "_law_ears") rfl), Ff__law_ears.kp, callOk_all Af__law_ears (Ff__law_ears.bindsN fun _ _ _ _ _ _ us hl => match us, hl with | [_, _, _], _ => rfl) rfl fun ds es xs hl h => match ds, hl, h with | [a0, a1, a2], _, h => by cases h; rfl⟩
        · exact ⟨_, He.glo_ok X Gh (c.fact 73 (f := .glo "_law_fault") rfl), Ff__law_fault.kp, callOk_all Af__law_fault (Ff__law_fault.bindsN fun _ _ _ _ _ _ us hl => match us, hl with | [_, _, _], _ => rfl) rfl fun ds es xs hl h => match ds, hl, h with | [a0, a1, a2], _, h => by cases h; rfl⟩
        · exact ⟨_, He.glo_ok X Gh (c.fact 74 (f := .glo "_law_due") rfl), Ff__law_due.kp, callOk_all Af__law_due (Ff__law_due.bindsN fun _ _ _ _ _ _ us hl => match us, hl with | [_, _], _ => rfl) rfl fun ds es xs hl h => match ds, hl, h with | [a0, a1], _, h => by cases h; rfl⟩
        · cases hq
      · intro c0 f hq
        have hq : fldT c0 f = true := hq
        unfold fldT at hq
        split at hq
        · exact ⟨He.cls_ok (c.fact 75 (f := .cls "Field") rfl), He.noat_ok (c.fact 76 (f := .noat "Field" "folk") rfl)⟩
        · exact ⟨He.cls_ok (c.fact 75 (f := .cls "Field") rfl), He.noat_ok (c.fact 77 (f := .noat "Field" "pairs") rfl)⟩
        · cases hq
      · intro c0 m n ks pl hq
        have hq : methT c0 m n ks pl = true := hq
        unfold methT at hq
        split at hq
        · exact ⟨He.cls_ok (c.fact 75 (f := .cls "Field") rfl), _, He.meth_ok (c.fact 78 (f := .meth "Field" "check_ear") rfl), callOk_all Af_Field_check_ear (Ff_Field_check_ear.bindsN fun _ _ _ _ _ _ us hl => match us, hl with | [_, _, _], _ => rfl) rfl fun ds es xs hl h => match ds, hl, h with | [a0, a1, a2], _, h => by cases h; rfl⟩
        · exact ⟨He.cls_ok (c.fact 75 (f := .cls "Field") rfl), _, He.meth_ok (c.fact 79 (f := .meth "Field" "check") rfl), callOk_all Af_Field_check (Ff_Field_check.bindsN fun _ _ _ _ _ _ us hl => match us, hl with | [_, _], _ => rfl) rfl fun ds es xs hl h => match ds, hl, h with | [a0, a1], _, h => by cases h; rfl⟩
        · cases hq
      · intro c0 n ks pl hq
        have hq : makeT c0 n ks pl = true := hq
        unfold makeT at hq
        split at hq
        · obtain ⟨its0, mv0, hk⟩ := Ff_Field_init.kbinds (ps := [("self" : Str), ("houses" : Str), ("ears" : Str), ("both" : Str)]) 3 [("both" : Str)] [] (fun us its mv ws => us ++ ((ws.drop 0).take 1)) (by intro z; cases z) (by intro z; cases z) (fun q hq => by cases hq) (fun r1 r2 r3 r4 => r1.append (vals_take (vals_drop r4 0) 1)) (fun T D doc pm an cdv ct us its mv ws l1 l2 l3 l4 => match us, its, mv, ws, l1, l2, l3, l4 with | [_, _, _], [_, _], [], [_], _, _, _, _ => ⟨_, rfl, by first | rfl | exact ⟨_, _, _, _, _, _, rfl, rfl, rfl⟩⟩)
          exact ⟨He.glo_ok X Gh (c.fact 80 (f := .glo "Field") rfl), _, He.mkr_ok (c.fact 81 (f := .mkr "Field") rfl), ⟨_, _, _, _, Af_Field_init, hk, fun W vs ds zs es xs rl rz hl h => by
            obtain ⟨v0, x0, vs, ds, rfl, rfl, r0, rl, hl⟩ := rl_nS rl hl
            obtain ⟨v1, x1, vs, ds, rfl, rfl, r1, rl, hl⟩ := rl_nS rl hl
            obtain ⟨v2, x2, vs, ds, rfl, rfl, r2, rl, hl⟩ := rl_nS rl hl
            obtain ⟨rfl, rfl⟩ := rl_n0 rl hl
            rcases rz with _ | @⟨z0, y0, zs, es, s0, rz⟩
            · cases h
            cases h
            exact .cons r0 (.cons r1 (.cons r2 (.cons s0 .nil)))⟩⟩
        · cases hq
    have hwf_law : ∀ g ws, Tf_law.why g ws = true → WhyOk P K mg base (Mn K) subT df_law.code (Df_law.qual ++ ".<locals>.") g ws := by
      intro g ws hq
      simp only [Tf_law, Bool.or_eq_true, Bool.and_eq_true, decide_eq_true_eq] at hq
      rcases hq with ⟨rfl, rfl⟩
      exact why_f_law_f__law_why X Gh c e FF tb
    exact ⟨fd_ok (T := Tf_Field_init) Ff_Field_init Sf_Field_init rfl rfl rfl Cf_Field_init ⟨md.glb, md.blt, md.call, md.fld, md.meth, md.make, md.exc⟩ (fun _ _ z => by cases z),
      fd_ok (T := Tf_Field_check) Ff_Field_check Sf_Field_check rfl rfl rfl Cf_Field_check ⟨md.glb, md.blt, md.call, md.fld, md.meth, md.make, md.exc⟩ (fun _ _ z => by cases z),
      fd_ok (T := Tf_Field_check_ear) Ff_Field_check_ear Sf_Field_check_ear rfl rfl rfl Cf_Field_check_ear ⟨md.glb, md.blt, md.call, md.fld, md.meth, md.make, md.exc⟩ (fun _ _ z => by cases z),
      fd_ok (T := Tf__law_pot) Ff__law_pot Sf__law_pot rfl rfl rfl Cf__law_pot ⟨md.glb, md.blt, md.call, md.fld, md.meth, md.make, md.exc⟩ (fun _ _ z => by cases z),
      fd_ok (T := Tf__law_take) Ff__law_take Sf__law_take rfl rfl rfl Cf__law_take ⟨md.glb, md.blt, md.call, md.fld, md.meth, md.make, md.exc⟩ (fun _ _ z => by cases z),
      fd_ok (T := Tf__law_same) Ff__law_same Sf__law_same rfl rfl rfl Cf__law_same ⟨md.glb, md.blt, md.call, md.fld, md.meth, md.make, md.exc⟩ (fun _ _ z => by cases z),
      fd_ok (T := Tf__law_folk) Ff__law_folk Sf__law_folk rfl rfl rfl Cf__law_folk ⟨md.glb, md.blt, md.call, md.fld, md.meth, md.make, md.exc⟩ (fun _ _ z => by cases z),
      fd_ok (T := Tf__law_ears) Ff__law_ears Sf__law_ears rfl rfl rfl Cf__law_ears ⟨md.glb, md.blt, md.call, md.fld, md.meth, md.make, md.exc⟩ (fun _ _ z => by cases z),
      fd_ok (T := Tf__law_stranger) Ff__law_stranger Sf__law_stranger rfl rfl rfl Cf__law_stranger ⟨md.glb, md.blt, md.call, md.fld, md.meth, md.make, md.exc⟩ (fun _ _ z => by cases z),
      fd_ok (T := Tf__law_due) Ff__law_due Sf__law_due rfl rfl rfl Cf__law_due ⟨md.glb, md.blt, md.call, md.fld, md.meth, md.make, md.exc⟩ (fun _ _ z => by cases z),
      fd_ok (T := Tf__law_fault) Ff__law_fault Sf__law_fault rfl rfl rfl Cf__law_fault ⟨md.glb, md.blt, md.call, md.fld, md.meth, md.make, md.exc⟩ (fun _ _ z => by cases z),
      fd_ok (T := Tf_law) Ff_law Sf_law rfl rfl rfl Cf_law ⟨md.glb, md.blt, md.call, md.fld, md.meth, md.make, md.exc⟩ (hwf_law)⟩
end
end K07

set_option Elab.async false
set_option linter.all false
set_option maxRecDepth 100000
set_option maxHeartbeats 400000
namespace K07
open PySem PySem.Spec PyProof.Rows L2 Fn
abbrev R : PySem.W.OpenRow := PySem.W.OpenLaw.row PySem.Challenge.rw_earshot_k07_fields_refused
abbrev hk : PySem.W.Hook := He.hookX 5 fa fn [] tf exB
def ob (s : PySem.W.SharedT) : He.AlX := He.obsX 5 fa fn [] tf exB (HandSHeadRun.getT s)
theorem ob_eq (s : PySem.W.SharedT) : ob s = hk.obs s.abs := He.obsX_eq (HandSHeadRun.getT_eq s)
theorem runs (w : World) : HandSHeadRun.RunEq R (PySem.W.view R.prog [24]) hk ob 4000 ["_wall", "AirError", "WordError", "StateError", "NoHouse", "Twice", "NoEar", "BadNumber", "TooMany", "MOST_HOUSES", "MOST_NUMBER", "Field", "_law_pot", "_law_take", "_law_same", "_law_folk", "_law_ears", "_law_stranger", "_law_due", "_law_fault", "_law_why"] w := by
  intro os
  kernel_rfl
theorem facts {P : Program} {w : World} {K : PySem.W.Frag} {h : Heap} {mg : Str → Option Value} {f : Addr} (X : K.In h) (Gh : h.Ns mainGlobals mg) (hfa : mg ("law" : Str) = some (.ref f)) (c : He.SaysD fa fn K) (e : exB K = true) :
    ∃ fd : FuncData, (∀ (s : Shared) (v : Value), BindsTo s fd ⟨[v], []⟩ [(("_law_script" : Str), v)]) ∧ ∀ base : Heap, K.In base → base.Ns mainGlobals mg → (∀ p ∈ tf, LamX.TabB base mg (He.cT K p).1 (He.cT K p).2) → FnOk P w K mg base (CXe P) 49 f fd [("_law_script" : Str)] (spF K (Mn K) (run G 12 "law")) := by
  obtain ⟨df_Field_init, Ff_Field_init⟩ := c.def_ 0 (d := Df_Field_init) rfl
  obtain ⟨df_Field_check, Ff_Field_check⟩ := c.def_ 1 (d := Df_Field_check) rfl
  obtain ⟨df_Field_check_ear, Ff_Field_check_ear⟩ := c.def_ 2 (d := Df_Field_check_ear) rfl
  obtain ⟨df__law_pot, Ff__law_pot⟩ := c.def_ 3 (d := Df__law_pot) rfl
  obtain ⟨df__law_take, Ff__law_take⟩ := c.def_ 4 (d := Df__law_take) rfl
  obtain ⟨df__law_same, Ff__law_same⟩ := c.def_ 5 (d := Df__law_same) rfl
  obtain ⟨df__law_folk, Ff__law_folk⟩ := c.def_ 6 (d := Df__law_folk) rfl
  obtain ⟨df__law_ears, Ff__law_ears⟩ := c.def_ 7 (d := Df__law_ears) rfl
  obtain ⟨df__law_stranger, Ff__law_stranger⟩ := c.def_ 8 (d := Df__law_stranger) rfl
  obtain ⟨df__law_due, Ff__law_due⟩ := c.def_ 9 (d := Df__law_due) rfl
  obtain ⟨df__law_fault, Ff__law_fault⟩ := c.def_ 10 (d := Df__law_fault) rfl
  obtain ⟨df_law, Ff_law⟩ := c.def_ 11 (d := Df_law) rfl
  obtain ⟨df__law_why, Ff__law_why⟩ := c.def_ 12 (d := Df__law_why) rfl
  obtain ⟨df_TooMany_init, Ff_TooMany_init⟩ := c.def_ 13 (d := Df_TooMany_init) rfl
  obtain ⟨df_Twice_init, Ff_Twice_init⟩ := c.def_ 14 (d := Df_Twice_init) rfl
  obtain ⟨df_NoHouse_init, Ff_NoHouse_init⟩ := c.def_ 15 (d := Df_NoHouse_init) rfl
  obtain ⟨df_NoEar_init, Ff_NoEar_init⟩ := c.def_ 16 (d := Df_NoEar_init) rfl
  have e1 := hfa.symm.trans (He.glo_ok X Gh (c.fact 82 (f := .glo "law") rfl))
  cases e1
  refine ⟨df_law, fun s v => (FunD.bindsA (ps := [("_law_script" : Str)]) Ff_law fun _ _ _ _ _ _ us hl => match us, hl with | [_], _ => rfl) s [v] rfl, fun base _ _ tb => ?_⟩
  obtain ⟨Af_Field_init, Af_Field_check, Af_Field_check_ear, Af__law_pot, Af__law_take, Af__law_same, Af__law_folk, Af__law_ears, Af__law_stranger, Af__law_due, Af__law_fault, Af_law⟩ := lvl (P := P) (w := w) (base := base) X Gh c e ⟨Ff_Field_init, Ff_Field_check, Ff_Field_check_ear, Ff__law_pot, Ff__law_take, Ff__law_same, Ff__law_folk, Ff__law_ears, Ff__law_stranger, Ff__law_due, Ff__law_fault, Ff_law, Ff__law_why, Ff_TooMany_init, Ff_Twice_init, Ff_NoHouse_init, Ff_NoEar_init⟩ tb 12
  exact fn_any Af_law

theorem holds_of (plain : ∀ ns : List Int, ns.length ≤ 63 → ∃ s', run G 12 "law" [.klst (ns.map D.int)] ⟨[], 0, false⟩ = .ok (.bl true) s') : PySem.Challenge.rw_earshot_k07_fields_refused.Holds := by
  w_on; o_law
  refine HandSHeadRun.head_any (r := PySem.W.OpenLaw.row PySem.Challenge.rw_earshot_k07_fields_refused) (q := PySem.W.view (PySem.W.OpenLaw.row PySem.Challenge.rw_earshot_k07_fields_refused).prog [24]) (H := hk) (ob := ob) (M := 4000) (loose := ["_wall", "AirError", "WordError", "StateError", "NoHouse", "Twice", "NoEar", "BadNumber", "TooMany", "MOST_HOUSES", "MOST_NUMBER", "Field", "_law_pot", "_law_take", "_law_same", "_law_folk", "_law_ears", "_law_stranger", "_law_due", "_law_fault", "_law_why"]) (d := HandSHeadRun.topDef (PySem.W.OpenLaw.row PySem.Challenge.rw_earshot_k07_fields_refused).prog 24) (kwd := []) ob_eq
    (by kernel_rfl) (fun s => by kernel_rfl) runs (by kernel_rfl) (by kernel_rfl) (by kernel_rfl) (by rfl) (by first | assumption | decide +kernel) (by decide +kernel) ⟨rfl, rfl, rfl, rfl, rfl, by decide +kernel⟩ ?hw ?hc
  case hw => w_witness2
  case hc =>
    refine LamX.walk_ofTsE (l := PySem.Challenge.rw_earshot_k07_fields_refused) (n := 63) (k := 49) (x := "_law_script") (CX := fun _ => CXe (PySem.Challenge.rw_earshot_k07_fields_refused).prog) rfl (by decide) (by kernel_rfl) ⟨rfl, by decide, by decide⟩ ?F (fun _ => cxe_no)
    intro w mg f h Y Gh hmg0
    obtain ⟨K, KX, c⟩ := Y
    have hmg : mg ("law" : PySem.Str) = some (.ref f) := by
      have e : (HandSHeadRun.topDef (PySem.W.OpenLaw.row PySem.Challenge.rw_earshot_k07_fields_refused).prog 24).name = ("law" : PySem.Str) := by kernel_rfl
      rw [← e]
      exact hmg0
    obtain ⟨fd, hb, hF⟩ := facts (P := (PySem.Challenge.rw_earshot_k07_fields_refused).prog) (w := w) KX Gh hmg c.t.d c.more
    have hcs : ∀ {Z : Addr × Addr → Prop}, (∀ p ∈ tf, Z (He.cT K p)) → ∀ p ∈ tf.map (He.cT K), Z p := fun hz p hp => by
      obtain ⟨p0, h1, rfl⟩ := List.mem_map.mp hp
      exact hz p0 h1
    refine ⟨K, KX, fd, tf.map (He.cT K), _, hcs c.empty, hcs c.out, hcs fun p hp => PySem.W.codeHd_of_K KX (c.hd p hp), hb, fun H a ns hl _ ht hS => script_sp (fun p hp => ?_) hS (plain ns hl), fun base b1 b2 tb => hF base b1 b2 fun p hp => tb _ (List.mem_map.mpr ⟨p, hp, rfl⟩)⟩
    simp only [Mn, tbs, List.mem_cons, List.not_mem_nil, or_false] at hp
    rcases hp with rfl
    all_goals exact ht _ (List.mem_map.mpr ⟨_, by simp [tf], rfl⟩)
end K07

set_option linter.all false
theorem k07_facts : Fn.G7 K07.G := { init := rfl, ce := rfl, ck := rfl, a1 := rfl, b1 := rfl, b2 := rfl, c1 := rfl, c2 := rfl, c3 := rfl, d1 := rfl, d2 := rfl, d3 := rfl, d4 := rfl, e1 := rfl, e2 := rfl, e3 := rfl, e4 := rfl, e5 := rfl, pot := rfl, take := rfl, same := rfl, folk := rfl, ears := rfl, stranger := rfl, due := rfl, fault := rfl, law := rfl, fuel := by show 100000 ≤ 10 ^ 60; decide }
theorem k07_plain (ns : List Int) (h : ns.length ≤ 63) : ∃ s', Fn.run K07.G 12 "law" [.klst (ns.map Fn.D.int)] ⟨[], 0, false⟩ = .ok (.bl true) s' :=
  Fn.law7_run k07_facts 4 ns h
theorem PySem.Challenge.cw_earshot_k07_fields_refused_holds : PySem.Challenge.rw_earshot_k07_fields_refused.Holds :=
  K07.holds_of k07_plain

