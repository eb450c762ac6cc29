import PyProof.Rows.All
import Wide.All
import OpenK.AllK
import Wide.FinOn
import PySem.Challenge.RW_mixeddiffs_k90_fronts_refused_and_named
import PySem.PyData
import PyProof.ReprReads
import PyProof.P3Statements
import PyProof.EqLayable
import HandS.List
import HandS.ForMost
import HandS.Exc
import HandS.Defaults
import HandS.Lambda
import HandS.HeadHook2
import HandS.Text
import HandS.IsInst
import HandS.WordsDict
import HandS.RaiseMore
import HandS.ClsMeth
import HandS.ExcField
import KE.KExcIs
import HandS.Star
import HandS.ExcInit
import KE.KExcSuper
import HandS.Comp
import HandS.DictComp
import HandS.Iter
import HandS.HeadHook4
import HandS.HeadWalk
import HandS.Head2
import HandS.HeadEnd
import KE.KStateDown
/-! A small evaluator for the Python that the laws use: values, an own heap, an intermediate form, and what it computes. No machine in sight. -/
set_option Elab.async false
set_option linter.all false
noncomputable section
namespace Py
open PySem

/-! ### a trie by numbers -/
inductive Tr (α : Type) where
  | nil | node (v : Option α) (l r : Tr α)
namespace Tr
variable {α : Type}
def gZ (v : Option α) (gl gr : Nat → Option α) (k : Nat) : Option α := Nat.rec (motive := fun _ => Option α) v (fun j _ => Bool.rec (motive := fun _ => Option α) (gr (Nat.div j 2)) (gl (Nat.div j 2)) (Nat.beq (Nat.mod j 2) 0)) k
def get (t : Tr α) : Nat → Option α := Tr.rec (motive := fun _ => Nat → Option α) (fun _ => none) (fun v _ _ gl gr => gZ v gl gr) t
def sZ0 (v : α) (t : Tr α) : Tr α := Tr.rec (motive := fun _ => Tr α) (.node (some v) .nil .nil) (fun _ l r _ _ => .node (some v) l r) t
def sZl (ih : Tr α → Nat → α → Tr α) (j : Nat) (v : α) (t : Tr α) : Tr α := Tr.rec (motive := fun _ => Tr α) (.node none (ih .nil j v) .nil) (fun o l r _ _ => .node o (ih l j v) r) t
def sZr (ih : Tr α → Nat → α → Tr α) (j : Nat) (v : α) (t : Tr α) : Tr α := Tr.rec (motive := fun _ => Tr α) (.node none .nil (ih .nil j v)) (fun o l r _ _ => .node o l (ih r j v)) t
def sZ (ih : Tr α → Nat → α → Tr α) (t : Tr α) (k : Nat) (v : α) : Tr α := Nat.rec (motive := fun _ => Tr α) (sZ0 v t) (fun j _ => Bool.rec (motive := fun _ => Tr α) (sZr ih (Nat.div j 2) v t) (sZl ih (Nat.div j 2) v t) (Nat.beq (Nat.mod j 2) 0)) k
def setF (f : Nat) : Tr α → Nat → α → Tr α := Nat.rec (motive := fun _ => Tr α → Nat → α → Tr α) (fun t _ _ => t) (fun _ ih => sZ ih) f
def set (t : Tr α) (k : Nat) (v : α) : Tr α := setF (Nat.succ k) t k v
def ofList (l : List α) : Tr α := (l.foldl (fun (p : Tr α × Nat) x => (p.1.set p.2 x, p.2 + 1)) (.nil, 0)).1
end Tr

/-! ### values and objects -/
inductive PV where
  | non | bl (b : Bool) | int (i : Int) | str (x : Str)
  | obj (a : Nat)
  | glo (g : Nat)
  | tup (xs : List PV)
  | exv (a : Nat)
  deriving Inhabited

inductive HObj where
  | lst (xs : List PV)
  | rol (xs : List PV)
  | dct (kvs : List (PV × PV)) (locked : Bool)
  | ins (c : Nat) (fs : List (Nat × PV))
  | cell (v : Option PV)
  | clo (d : Nat) (caps : List (Nat × Nat))
  | exc (c : Nat) (fs : List (Nat × PV))
  | any
  deriving Inhabited

structure OHeap where
  n : Nat
  t : Tr HObj
namespace OHeap
def empty : OHeap := ⟨0, .nil⟩
def get (h : OHeap) (a : Nat) : Option HObj := match Nat.blt a h.n with
  | true => h.t.get a
  | false => none
def set (h : OHeap) (a : Nat) (o : HObj) : OHeap := ⟨h.n, h.t.set a o⟩
def push (h : OHeap) (o : HObj) : OHeap := ⟨h.n + 1, h.t.set h.n o⟩
end OHeap

/-! ### the intermediate form -/
inductive Bop where | add | sub | mul | fdiv | mod | pow
inductive Cop where | eq | ne | lt | le | gt | ge | is | isn | in_ | nin
/-- a class in isinstance -/
inductive BT where | non | bl | int | str | lst | tup | dct
  deriving DecidableEq
inductive CR where | bt (n : BT) | own (c : Nat)
/-- built-in functions -/
inductive BF where
  | len | min | max | abs | all | any | sum | repr | tuple | list | int | divmod

mutual
inductive IE where
  | non | bl (b : Bool) | int (i : Int) | str (x : Str)
  | loc (i : Nat)
  | glo (g : Nat)
  | bin (op : Bop) (a b : IE) | neg (a : IE) | not (a : IE)
  | cmp (op : Cop) (a b : IE) | chain (o1 o2 : Cop) (a b c : IE)
  | and (a b : IE) | or (a b : IE)
  | ite (c a b : IE)
  | tup (es : IEs) | lst (es : IEs) | dic (kvs : IKs)
  | sub (a i : IE) | sli (a lo hi : IE)
  | fld (a : IE) (f : Nat)
  | ccon (g : Nat) (f : Nat)
  | call (g : Nat) (as : IEs) | callk (g : Nat) (ks : List Nat) (kv : IEs)
  | callv (f : IE)
  | meth (o : IE) (m : Nat) (as : IEs)
  | isi (e : IE) (cs : List CR)
  | bf (b : BF) (as : IEs)
  | app (o e : IE) | dget (o k d : IE)
  | lam (d : Nat)
  | lc (elt : IE) (tg : IT) (it : II) (ifs : IEs) (own : List Nat)
  | dc0 (e : IE)
  | unk
inductive IEs where
  | nil | cons (e : IE) (es : IEs)
inductive IKs where
  | nil | cons (k v : IE) (r : IKs)
/-- targets -/
inductive IT where
  | name (i : Nat) | tup (ts : ITs) | sub (a i : IE) | fld (a : IE) (f : Nat)
inductive ITs where
  | nil | cons (t : IT) (ts : ITs)
/-- what a loop walks -/
inductive II where
  | ex (e : IE)
  | rng1 (e : IE) | rng2 (a b : IE)
  | enm (e : IE)
end
mutual
inductive IS where
  | expr (e : IE)
  | asg (t : IT) (e : IE)
  | asg2 (t u : IT) (e : IE)
  | aug (t : IT) (op : Bop) (e : IE)
  | ret (e : IE) | retN
  | ite (c : IE) (a b : ISs)
  | for_ (t : IT) (it : II) (b : ISs)
  | brk | cnt | pass
  | raise (g : Nat) (as : IEs)
  | try_ (b : ISs) (hs : IHs)
  | unk
inductive ISs where
  | nil | cons (s : IS) (ss : ISs)
inductive IHs where
  | nil | cons (g : Nat) (slot : Nat) (b : ISs) (hs : IHs)
end

/-! ### the program's tables -/
structure Cls where
  meths : List (Nat × Nat) := []
  cons : List (Nat × PV) := []
  flds : List Nat := []
  init : Option Nat := none
  exc : Option (List Nat) := none
  mro : List Nat := []
structure Dfn where
  ps : List Nat
  star : Bool := false
  dfl : List (Nat × PV) := []
  /-- further ways to call it: how many values, which keywords -/
  sh : List (Nat × List Nat) := []
  ns : Nat
  cells : List Nat := []
  body : ISs
inductive GV where
  | fn (d : Nat) | cls (c : Nat) | val (v : PV) | keys (ks : List Str)
structure Prog where
  globs : Tr GV
  dfns : Tr Dfn
  clss : Tr Cls

/-! ### results -/
inductive R (α : Type) where
  | ok (a : α) (h : OHeap) | ex (e : Nat) (h : OHeap) | no
@[reducible] def R.bind {α β : Type} (r : R α) (k : α → OHeap → R β) : R β := match r with
  | .ok a h => k a h
  | .ex e h => .ex e h
  | .no => .no
inductive Slot where
  | n | v (x : PV) | c (a : Nat)
  deriving Inhabited
abbrev Frame := List Slot
inductive RS where
  | nx (fr : Frame) (h : OHeap) | rt (v : PV) (fr : Frame) (h : OHeap) | bk (fr : Frame) (h : OHeap) | ct (fr : Frame) (h : OHeap) | ex (e : Nat) (fr : Frame) (h : OHeap) | no
@[reducible] def R.toS {α : Type} (r : R α) (fr : Frame) (k : α → OHeap → RS) : RS := match r with
  | .ok a h => k a h
  | .ex e h => .ex e fr h
  | .no => .no

/-- a def, called: its number, its bound arguments, its captured cells -/
abbrev CallH := Nat → List PV → List (Nat × Nat) → OHeap → R PV

/-! ### data -/
/- dk: an empty dict may stand at the top -/
mutual
def toData (dk : Bool) (h : OHeap) : Nat → PV → Option PyData
  | 0, _ => none
  | f + 1, v => match v with
    | .non => some .none
    | .bl b => some (.bool b)
    | .int i => some (.int i)
    | .str x => some (.str x)
    | .tup xs => (match toDatas h f xs with
      | some ds => some (.tuple ds)
      | none => none)
    | .obj a => (match h.get a with
      | some (.lst xs) => (match toDatas h f xs with
        | some ds => some (.list ds)
        | none => none)
      | some (.dct kvs false) => (match dk && kvs.isEmpty with
        | true => some (.dict [])
        | false => none)
      | _ => none)
    | _ => none
def toDatas (h : OHeap) : Nat → List PV → Option (List PyData)
  | 0, _ => none
  | f + 1, l => match l with
    | [] => some []
    | x :: xs => (match toData false h f x with
      | some d => (match toDatas h f xs with
        | some ds => some (d :: ds)
        | none => none)
      | none => none)
end
def dataFuel : Nat := 200000
/-! keys, compared -/
mutual
def keyEq : PV → PV → Bool
  | .non, .non => true
  | .bl a, .bl b => a == b
  | .int i, .int j => decide (i = j)
  | .str x, .str y => decide (x = y)
  | .tup xs, .tup ys => keyEqs xs ys
  | _, _ => false
def keyEqs : List PV → List PV → Bool
  | [], [] => true
  | x :: xs, y :: ys => keyEq x y && keyEqs xs ys
  | _, _ => false
end
def dget (k : PV) : List (PV × PV) → Option PV
  | [] => none
  | (a, v) :: r => match keyEq a k with
    | true => some v
    | false => dget k r
def dput (k v : PV) : List (PV × PV) → List (PV × PV)
  | [] => [(k, v)]
  | (a, w) :: r => match keyEq a k with
    | true => (a, v) :: r
    | false => (a, w) :: dput k v r
def lookN {α : Type} (k : Nat) : List (Nat × α) → Option α
  | [] => none
  | (a, v) :: r => match Nat.beq a k with
    | true => some v
    | false => lookN k r
def putN {α : Type} (k : Nat) (v : α) : List (Nat × α) → List (Nat × α)
  | [] => [(k, v)]
  | (a, w) :: r => match Nat.beq a k with
    | true => (a, v) :: r
    | false => (a, w) :: putN k v r
def clean : PV → Bool
  | .exv _ => false
  | _ => true

/-! ### operators -/
def fits (n : Nat) : Bool := Nat.ble n 16777216
def small (i : Int) : Bool := Nat.blt i.natAbs 18446744073709551616
def idx (i : Int) (n : Nat) : Option Nat :=
  match i with
  | .ofNat k => (match Nat.blt k n with | true => some k | false => none)
  | .negSucc k => (match Nat.blt k n with | true => some (n - 1 - k) | false => none)
/-- truth -/
def truth (h : OHeap) : PV → Option Bool
  | .non => some false
  | .bl b => some b
  | .int i => some (i != 0)
  | .str x => (match fits x.length with | true => some (x.length != 0) | false => none)
  | .tup xs => some (!xs.isEmpty)
  | .obj a => (match h.get a with
    | some (.lst xs) => some (!xs.isEmpty)
    | some (.dct kvs false) => some (!kvs.isEmpty)
    | _ => none)
  | _ => none
def addV (x y : PV) (h : OHeap) : R PV := match x, y with
  | .int i, .int j => .ok (.int (i + j)) h
  | .str a, .str b => (match fits (a.length + b.length) with
    | true => .ok (.str (a ++ b)) h
    | false => .no)
  | .tup a, .tup b => (match !a.isEmpty && !b.isEmpty && fits (a.length + b.length) with
    | true => .ok (.tup (a ++ b)) h
    | false => .no)
  | .obj a, .obj b => (match h.get a, h.get b with
    | some (.lst xs), some (.lst ys) => (match fits (xs.length + ys.length) with
      | true => .ok (.obj h.n) (h.push (.lst (xs ++ ys)))
      | false => .no)
    | _, _ => .no)
  | _, _ => .no
def mulV (x y : PV) (h : OHeap) : R PV := match x, y with
  | .int i, .int j => (match small i || small j with
    | true => .ok (.int (i * j)) h
    | false => .no)
  | .obj a, .int (.ofNat k) => (match h.get a with
    | some (.lst [x]) => (match fits k with
      | true => .ok (.obj h.n) (h.push (.lst (List.replicate k x)))
      | false => .no)
    | _ => .no)
  | _, _ => .no
def binop (op : Bop) (x y : PV) (h : OHeap) : R PV :=
  match op with
  | .add => addV x y h
  | .mul => mulV x y h
  | .sub => (match x, y with
    | .int i, .int j => .ok (.int (i - j)) h
    | _, _ => .no)
  | .fdiv => (match x, y with
    | .int i, .int j => (match decide (0 < j) && decide (j < 1073741824) with
      | true => .ok (.int (i / j)) h
      | false => .no)
    | _, _ => .no)
  | .mod => (match x, y with
    | .int i, .int j => (match decide (0 < j) with
      | true => .ok (.int (i % j)) h
      | false => .no)
    | _, _ => .no)
  | .pow => (match x, y with
    | .int i, .int (.ofNat k) => (match Nat.ble k 1000 && small i with
      | true => .ok (.int (i ^ k)) h
      | false => .no)
    | _, _ => .no)
/-- x == y of data -/
def dataEq (h : OHeap) (x y : PV) : Option Bool :=
  match x, y with
  | .int i, .int j => some (decide (i = j))
  | .str a, .str b => some (decide (a = b))
  | _, _ => match toData false h dataFuel x, toData false h dataFuel y with
    | some d, some e => (match SeqAt.shaped d && SeqAt.shaped e with
      | true => some (PyData.eqv d e)
      | false => none)
    | _, _ => none
def elems (h : OHeap) : PV → Option (List PV)
  | .tup xs => some xs
  | .obj a => (match h.get a with
    | some (.lst xs) => some xs
    | some (.rol xs) => some xs
    | _ => none)
  | _ => none
def flatP : PV → Bool
  | .non => true
  | .bl _ => true
  | .int _ => true
  | .str _ => true
  | _ => false
def eqP : PV → PV → Bool
  | .non, .non => true
  | .bl a, .bl b => a == b
  | .bl a, .int b => (if a then 1 else 0) == b
  | .int a, .bl b => a == (if b then 1 else 0)
  | .int a, .int b => a == b
  | .str a, .str b => a == b
  | _, _ => false
/-- x in y -/
def isIn (P : Prog) (h : OHeap) (x y : PV) : Option Bool :=
  match y with
  | .str b => (match x with
    | .str a => (match a.cps.toList with
      | [c] => some (decide (c ∈ b.cps.toList))
      | _ => none)
    | _ => none)
  | _ => match elems h y with
    | some l => (match flatP x && l.all flatP with
      | true => some (l.any fun z => eqP z x)
      | false => none)
    | none => none
def typeName (h : OHeap) : PV → Option BT
  | .non => some .non
  | .bl _ => some .bl
  | .int _ => some .int
  | .str _ => some .str
  | .tup _ => some .tup
  | .obj a => (match h.get a with
    | some (.lst _) => some .lst
    | some (.rol _) => some .lst
    | some (.dct _ false) => some .dct
    | _ => none)
  | _ => none
/-- an own class's number, and record -/
def ownCls (P : Prog) (h : OHeap) : PV → Option (Nat × Cls)
  | .obj a => (match h.get a with
    | some (.ins c _) => (match P.clss.get c with
      | some K => (match K.exc with
        | none => some (c, K)
        | some _ => none)
      | none => none)
    | _ => none)
  | .exv a => (match h.get a with
    | some (.exc c _) => (match P.clss.get c with
      | some K => (match K.exc with
        | none => none
        | some _ => some (c, K))
      | none => none)
    | _ => none)
  | _ => none
def btSub : BT → BT → Bool
  | .bl, .int => true
  | a, b => decide (a = b)
/-- isinstance for one class -/
def isa (P : Prog) (h : OHeap) (v : PV) (c : CR) : Option Bool := match typeName h v with
  | some t => (match c with
    | .bt n => some (btSub t n)
    | .own _ => some false)
  | none => (match ownCls P h v with
    | some (_, K) => (match c with
      | .bt _ => some false
      | .own c => some (K.mro.any fun x => Nat.beq x c))
    | none => none)
def isaAny (P : Prog) (h : OHeap) (v : PV) : List CR → Option Bool
  | [] => some false
  | c :: cs => match isa P h v c with
    | some true => some true
    | some false => isaAny P h v cs
    | none => none
def cmpop (P : Prog) (op : Cop) (x y : PV) (h : OHeap) : R PV :=
  match op with
  | .eq => (match dataEq h x y with
    | some b => .ok (.bl b) h
    | none => .no)
  | .ne => (match dataEq h x y with
    | some b => .ok (.bl (!b)) h
    | none => .no)
  | .lt => (match x, y with
    | .int i, .int j => .ok (.bl (decide (i < j))) h
    | _, _ => .no)
  | .le => (match x, y with
    | .int i, .int j => .ok (.bl (decide (i ≤ j))) h
    | _, _ => .no)
  | .gt => (match x, y with
    | .int i, .int j => .ok (.bl (decide (j < i))) h
    | _, _ => .no)
  | .ge => (match x, y with
    | .int i, .int j => .ok (.bl (decide (j ≤ i))) h
    | _, _ => .no)
  | .is => (match y with
    | .non => .ok (.bl (match x with | .non => true | _ => false)) h
    | _ => .no)
  | .isn => (match y with
    | .non => .ok (.bl (match x with | .non => false | _ => true)) h
    | _ => .no)
  | .in_ => (match isIn P h x y with
    | some b => .ok (.bl b) h
    | none => .no)
  | .nin => (match isIn P h x y with
    | some b => .ok (.bl (!b)) h
    | none => .no)
/-- a[i] -/
def subscr (x i : PV) (h : OHeap) : R PV :=
  match i with
  | .int k => (match elems h x with
    | some l => (match idx k l.length with
      | some n => (match l[n]? with
        | some v => .ok v h
        | none => .no)
      | none => .no)
    | none => .no)
  | _ => .no
/-- a slice's part -/
def part : Bool → PV → Option (Option Int)
  | true, .non => some none
  | false, .int i => some (some i)
  | _, _ => none
def IE.isNon : IE → Bool
  | .non => true
  | _ => false
def slice (l : List PV) (lo hi : Option Int) : List PV := (l.drop (HT.sIx l.length 0 lo)).take (HT.sIx l.length l.length hi - HT.sIx l.length 0 lo)
def sliced (x : PV) (lo hi : Option Int) (h : OHeap) : R PV :=
  match x with
  | .tup xs => (match Nat.beq (HT.sIx xs.length 0 lo) 0 && Nat.beq (HT.sIx xs.length xs.length hi) xs.length with
    | true => .no
    | false => .ok (.tup (slice xs lo hi)) h)
  | .obj a => (match h.get a with
    | some (.lst xs) => .ok (.obj h.n) (h.push (.lst (slice xs lo hi)))
    | _ => .no)
  | _ => .no
/-- the arguments, bound -/
def bindGo (sl : List (Nat × PV)) (dfl : List (Nat × PV)) : List Nat → Option (List PV)
  | [] => some []
  | p :: ps => (match (match lookN p sl with | some v => some v | none => lookN p dfl) with
    | some v => (match bindGo sl dfl ps with
      | some vs => some (v :: vs)
      | none => none)
    | none => none)
def eqNs : List Nat → List Nat → Bool
  | [], [] => true
  | a :: l, b :: m => Nat.beq a b && eqNs l m
  | _, _ => false
def bindA (D : Dfn) (pos : List PV) (kn : List Nat) (kv : List PV) : Option (List PV) :=
  match D.star with
  | true => (match D.ps, kn, fits pos.length with
    | [], [], true => some [.tup pos]
    | _, _, _ => none)
  | false => (match kn, Nat.beq pos.length D.ps.length with
    | [], true => some pos
    | _, _ => (match D.sh.any fun q => Nat.beq q.1 pos.length && eqNs q.2 kn with
      | true => bindGo (D.ps.zip pos ++ kn.zip kv) D.dfl D.ps
      | false => none))
def allClean : List PV → Bool
  | [] => true
  | x :: xs => clean x && allClean xs
/-- a def is called -/
def callDef (P : Prog) (C : CallH) (d : Nat) (pos : List PV) (kn : List Nat) (kv : List PV) (h : OHeap) : R PV := match P.dfns.get d with
  | some D => (match bindA D pos kn kv with
    | some vs => C d vs [] h
    | none => .no)
  | none => .no
/-- f(..), f a def or a class of the module -/
def callG (P : Prog) (C : CallH) (g : Nat) (pos : List PV) (kn : List Nat) (kv : List PV) (h : OHeap) : R PV :=
  match P.globs.get g with
  | some (.fn d) => callDef P C d pos kn kv h
  | some (.cls c) => (match P.clss.get c with
    | some K => (match K.init, K.exc with
      | some d, none => (match callDef P C d (.obj h.n :: pos) kn kv (h.push (.ins c [])) with
            | .ok .non h' => .ok (.obj h.n) h'
            | .ex e h' => .ex e h'
            | _ => .no)
      | _, _ => .no)
    | none => .no)
  | _ => .no
/-- g may be called at all -/
def callable (P : Prog) (g : Nat) : Bool := match P.globs.get g with
  | some (.fn d) => (match P.dfns.get d with
    | some _ => true
    | none => false)
  | some (.cls c) => (match P.clss.get c with
    | some K => (match K.init, K.exc with
      | some _, none => true
      | _, _ => false)
    | none => false)
  | _ => false
/-- an instance's method, its object without a field of that name -/
def methOf (P : Prog) (m : Nat) (o : PV) (h : OHeap) : Option Nat := match o with
  | .obj a => (match h.get a with
    | some (.ins c fs) => (match lookN m fs with
      | none => (match P.clss.get c with
        | some K => (match K.exc with
          | none => lookN m K.meths
          | some _ => none)
        | none => none)
      | some _ => none)
    | _ => none)
  | _ => none
/-- f(), f a value -/
def callV (P : Prog) (C : CallH) (f : PV) (h : OHeap) : R PV :=
  match f with
  | .obj a => (match h.get a with
    | some (.clo d caps) => (match caps with
      | [] => .no
      | _ => C d [] caps h)
    | _ => .no)
  | _ => .no
def hasFld (P : Prog) (x : Bool) (c f : Nat) : Bool := match P.clss.get c with
  | some K => (match K.exc with
    | some _ => x
    | none => !x) && K.flds.any fun x => Nat.beq x f
  | none => false
def field (P : Prog) (x : PV) (f : Nat) (h : OHeap) : R PV :=
  match x with
  | .obj a => (match h.get a with
    | some (.ins c fs) => (match lookN f fs with
      | some v => (match hasFld P false c f with
        | true => .ok v h
        | false => .no)
      | none => .no)
    | _ => .no)
  | .exv a => (match h.get a with
    | some (.exc c fs) => (match lookN f fs with
      | some v => (match hasFld P true c f with
        | true => .ok v h
        | false => .no)
      | none => .no)
    | _ => .no)
  | _ => .no
def bools : List PV → Option (List Bool)
  | [] => some []
  | .bl b :: r => (match bools r with | some l => some (b :: l) | none => none)
  | _ => none
def intsOf : List PV → Option (List Int)
  | [] => some []
  | .int i :: r => (match intsOf r with | some l => some (i :: l) | none => none)
  | _ => none
/-- a list's items -/
def items (h : OHeap) : PV → Option (List PV)
  | .obj a => (match h.get a with
    | some (.lst xs) => some xs
    | _ => none)
  | _ => none
def lenV (h : OHeap) (x : PV) : Option Nat := match elems h x with
    | some l => some l.length
    | none => (match x with
      | .str s => (match fits s.length with | true => some s.length | false => none)
      | .obj a => (match h.get a with
        | some (.dct kvs false) => some kvs.length
        | _ => none)
      | _ => none)
/-- repr -/
def shownV (h : OHeap) (x : PV) : Option Str := match toData true h dataFuel x with
    | some d => (match d.showable && fits d.shown.length && Nat.ble d.depth 64 with
      | true => some d.shown
      | false => none)
    | none => none
def reprV (h : OHeap) (x : PV) : Option Str := match x with
  | .non => some "None"
  | .bl b => some (if b then "True" else "False")
  | .int i => (match small i with
    | true => some (toString i)
    | false => none)
  | .str s => (match fits (reprText s).length with
    | true => some (reprText s)
    | false => none)
  | .tup _ => shownV h x
  | .obj _ => shownV h x
  | _ => none
/-- built-in functions -/
def builtin (b : BF) (as : List PV) (h : OHeap) : R PV :=
  match b with
  | .len => (match as with
    | [x] => (match lenV h x with
      | some n => .ok (.int n) h
      | none => .no)
    | _ => .no)
  | .min => (match as with
    | [.int i, .int j] => .ok (.int (if j < i then j else i)) h
    | _ => .no)
  | .max => (match as with
    | [.int i, .int j] => .ok (.int (if j > i then j else i)) h
    | _ => .no)
  | .abs => (match as with
    | [.int i] => .ok (.int (if i < 0 then -i else i)) h
    | _ => .no)
  | .all => (match as with
    | [x] => (match items h x with
      | some l => (match bools l with | some b => .ok (.bl (b.all id)) h | none => .no)
      | none => .no)
    | _ => .no)
  | .any => (match as with
    | [x] => (match items h x with
      | some l => (match bools l with | some b => .ok (.bl (b.any id)) h | none => .no)
      | none => .no)
    | _ => .no)
  | .sum => (match as with
    | [x] => (match items h x with
      | some l => (match intsOf l with | some b => .ok (.int b.sum) h | none => .no)
      | none => .no)
    | _ => .no)
  | .repr => (match as with
    | [x] => (match reprV h x with
      | some t => .ok (.str t) h
      | none => .no)
    | _ => .no)
  | .tuple => (match as with
    | [x] => (match elems h x with
      | some l => .ok (.tup l) h
      | none => .no)
    | _ => .no)
  | .list => (match as with
    | [x] => (match elems h x with
      | some l => .ok (.obj h.n) (h.push (.lst l))
      | none => .no)
    | _ => .no)
  | .int => (match as with
    | [.int i] => .ok (.int i) h
    | [.bl b] => .ok (.int (if b then 1 else 0)) h
    | _ => .no)
  | .divmod => (match as with
    | [.int i, .int j] => (match decide (0 < j) && decide (j < 1073741824) with
      | true => .ok (.tup [.int (i / j), .int (i % j)]) h
      | false => .no)
    | _ => .no)
def append (o v : PV) (h : OHeap) : R PV := match o, clean v with
  | .obj a, true => (match h.get a with
    | some (.lst xs) => (match fits (xs.length + 1) with
      | true => .ok .non (h.set a (.lst (xs ++ [v])))
      | false => .no)
    | _ => .no)
  | _, _ => .no
/-- of an empty dict -/
def isEmptyD (h : OHeap) : PV → Bool
  | .obj a => (match h.get a with
    | some (.dct [] false) => true
    | _ => false)
  | _ => false
def dgetV (o k d : PV) (h : OHeap) : R PV := match isEmptyD h o, k with
  | true, .str _ => .ok d h
  | _, _ => .no

/-! ### iterators -/
inductive Src where | l (a : Nat) | t (xs : List PV)
inductive ID where
  | one (s : Src)
  | rng (lo : Int) (n : Nat)
  | enm (a : Nat)
def srcOf (h : OHeap) : PV → Option Src
  | .tup xs => some (.t xs)
  | .obj a => (match h.get a with
    | some (.lst _) => some (.l a)
    | some (.rol _) => some (.l a)
    | _ => none)
  | _ => none
def Src.all (s : Src) (h : OHeap) : Option (List PV) := match s with
  | .t xs => some xs
  | .l a => elems h (.obj a)
/-- the i-th item; none: the machine would not go on -/
def next (it : ID) (i : Nat) (h : OHeap) : Option (Option PV) :=
  match it with
  | .one s => (match s.all h with | some l => some l[i]? | none => none)
  | .rng lo n => (match Nat.blt i n with
    | true => some (some (.int (lo + i)))
    | false => some none)
  | .enm a => (match elems h (.obj a) with
    | some l => (match l[i]? with
      | some v => some (some (.tup [.int i, v]))
      | none => some none)
    | none => none)
/-- a range's bound -/
def bnd62 (i : Int) : Bool := Nat.blt i.natAbs 4611686018427387904

/-! ### frames -/
def fget (fr : Frame) (i : Nat) (h : OHeap) : Option PV := match fr[i]? with
  | some (.v x) => some x
  | some (.c a) => (match h.get a with
    | some (.cell v) => v
    | _ => none)
  | _ => none
def fput (fr : Frame) (i : Nat) (v : PV) (h : OHeap) : Option (Frame × OHeap) := match fr[i]? with
  | some (.c a) => (match clean v with
    | true => some (fr, h.set a (.cell (some v)))
    | false => none)
  | some _ => some (fr.set i (.v v), h)
  | none => none
/-- a block's own names: forgotten -/
def wipeF : List Nat → Frame → Frame
  | [], fr => fr
  | i :: r, fr => wipeF r (fr.set i .n)
def defStart : List Nat → Frame → OHeap → Frame × OHeap
  | [], fr, h => (fr, h)
  | i :: r, fr, h => match fr[i]? with
    | some (.v x) => (match clean x with
      | true => defStart r (fr.set i (.c h.n)) (h.push (.cell (some x)))
      | false => defStart r fr h)
    | some .n => defStart r (fr.set i (.c h.n)) (h.push (.cell none))
    | _ => defStart r fr h
def capsOf : List Nat → Frame → Option (List (Nat × Nat))
  | [], _ => some []
  | i :: r, fr => (match fr[i]?, capsOf r fr with
    | some (.c a), some l => some ((i, a) :: l)
    | _, _ => none)
def putCaps : List (Nat × Nat) → Frame → Frame
  | [], fr => fr
  | (i, a) :: r, fr => putCaps r (fr.set i (.c a))
def turns : Nat := 1048576

/-! ### loops -/
def forL (tg : PV → Frame → OHeap → RS) (body : Frame → OHeap → RS) (it : ID) : Nat → Nat → Frame → OHeap → RS
  | 0, _, _, _ => .no
  | f + 1, i, fr, h => match next it i h with
    | none => .no
    | some none => .nx fr h
    | some (some v) => match tg v fr h with
      | .nx fr h => (match body fr h with
        | .nx fr h => forL tg body it f (i + 1) fr h
        | .ct fr h => forL tg body it f (i + 1) fr h
        | .bk fr h => .nx fr h
        | .ex e fr h => .ex e fr h
        | _ => .no)
      | .ex e fr h => .ex e fr h
      | _ => .no
/-- y into the list at D -/
def emit (D : Nat) (y : PV) (h : OHeap) : R Unit := match h.get D, clean y with
  | some (.lst xs), true => (match fits (xs.length + 1) with
    | true => .ok () (h.set D (.lst (xs ++ [y])))
    | false => .no)
  | _, _ => .no
/-- a comprehension's loop -/
def compL (tg : PV → Frame → OHeap → RS) (tests : Frame → OHeap → R Bool) (elt : Frame → OHeap → R PV) (it : ID) (D : Nat) : Nat → Nat → Frame → OHeap → R Unit
  | 0, _, _, _ => .no
  | f + 1, i, fr, h => match next it i h with
    | none => .no
    | some none => .ok () h
    | some (some v) => match tg v fr h with
      | .nx fr1 h => (match tests fr1 h with
        | .ok true h => (match elt fr1 h with
          | .ok y h => (match emit D y h with
            | .ok _ h => compL tg tests elt it D f (i + 1) fr1 h
            | _ => .no)
          | _ => .no)
        | .ok false h => compL tg tests elt it D f (i + 1) fr1 h
        | _ => .no)
      | _ => .no

/-! ### expressions -/
def ITs.len : ITs → Nat
  | .nil => 0
  | .cons _ ts => ts.len + 1
section
variable (P : Prog) (C : CallH)
mutual
def evalE : IE → Frame → OHeap → R PV
  | .non, _, h => .ok .non h
  | .bl b, _, h => .ok (.bl b) h
  | .int i, _, h => .ok (.int i) h
  | .str x, _, h => .ok (.str x) h
  | .loc i, fr, h => (match fget fr i h with
    | some v => .ok v h
    | none => .no)
  | .glo g, _, h => (match P.globs.get g with
    | some (.val v) => (match flatP v with
      | true => .ok v h
      | false => .no)
    | _ => .no)
  | .bin op a b, fr, h => (evalE a fr h).bind fun x h => (evalE b fr h).bind fun y h => binop op x y h
  | .neg a, fr, h => (evalE a fr h).bind fun x h => (match x with
    | .int i => .ok (.int (-i)) h
    | _ => .no)
  | .not a, fr, h => (evalE a fr h).bind fun x h => (match x with
    | .bl b => .ok (.bl (!b)) h
    | _ => .no)
  | .cmp op a b, fr, h => (evalE a fr h).bind fun x h => (evalE b fr h).bind fun y h => cmpop P op x y h
  | .chain o1 o2 a b c, fr, h => (evalE a fr h).bind fun x h => (evalE b fr h).bind fun y h => (cmpop P o1 x y h).bind fun t h => (match t with
    | .bl true => (evalE c fr h).bind fun z h => cmpop P o2 y z h
    | .bl false => .ok (.bl false) h
    | _ => .no)
  | .and a b, fr, h => (evalE a fr h).bind fun x h => (match x with
    | .bl true => evalE b fr h
    | .bl false => .ok (.bl false) h
    | _ => .no)
  | .or a b, fr, h => (evalE a fr h).bind fun x h => (match x with
    | .bl false => evalE b fr h
    | .bl true => .ok (.bl true) h
    | _ => .no)
  | .ite c a b, fr, h => (evalE c fr h).bind fun x h => (match truth h x with
    | some true => evalE a fr h
    | some false => evalE b fr h
    | none => .no)
  | .tup es, fr, h => (evalEs es fr h).bind fun xs h => (match fits xs.length with
    | true => .ok (.tup xs) h
    | false => .no)
  | .lst es, fr, h => (evalEs es fr h).bind fun xs h => (match fits xs.length with
    | true => .ok (.obj h.n) (h.push (.lst xs))
    | false => .no)
  | .dic kvs, fr, h => (evalKs kvs fr h).bind fun kvs h => .ok (.obj h.n) (h.push (.dct (kvs.foldl (fun d p => dput p.1 p.2 d) []) false))
  | .sub a i, fr, h => (evalE a fr h).bind fun x h => (evalE i fr h).bind fun y h => subscr x y h
  | .sli a lo hi, fr, h => (evalE a fr h).bind fun x h => (evalE lo fr h).bind fun l h => (match part lo.isNon l with
    | some l => (evalE hi fr h).bind fun u h => (match part hi.isNon u with
      | some u => sliced x l u h
      | none => .no)
    | none => .no)
  | .fld a f, fr, h => (evalE a fr h).bind fun x h => field P x f h
  | .ccon g f, _, h => (match P.globs.get g with
    | some (.cls c) => (match P.clss.get c with
      | some K => (match lookN f K.cons with
        | some v => (match flatP v with
          | true => .ok v h
          | false => .no)
        | none => .no)
      | none => .no)
    | _ => .no)
  | .call g as, fr, h => (match callable P g with
    | true => (evalEs as fr h).bind fun xs h => callG P C g xs [] [] h
    | false => .no)
  | .callk g ks kv, fr, h => (match callable P g with
    | true => (evalEs kv fr h).bind fun ys h => callG P C g [] ks ys h
    | false => .no)
  | .callv f, fr, h => (evalE f fr h).bind fun x h => callV P C x h
  | .meth o m as, fr, h => (evalE o fr h).bind fun x h => (match methOf P m x h with
    | some d => (evalEs as fr h).bind fun xs h => callDef P C d (x :: xs) [] [] h
    | none => .no)
  | .isi e cs, fr, h => (evalE e fr h).bind fun x h => (match isaAny P h x cs with
    | some b => .ok (.bl b) h
    | none => .no)
  | .bf b as, fr, h => (evalEs as fr h).bind fun xs h => builtin b xs h
  | .app o e, fr, h => (evalE o fr h).bind fun x h => (match items h x with
    | some _ => (evalE e fr h).bind fun y h => append x y h
    | none => .no)
  | .dget o k d, fr, h => (evalE o fr h).bind fun x h => (match isEmptyD h x with
    | true => (evalE k fr h).bind fun y h => (evalE d fr h).bind fun z h => dgetV x y z h
    | false => .no)
  | .lam d, fr, h => (match P.dfns.get d with
    | some D => (match capsOf D.cells fr with
      | some caps => .ok (.obj h.n) (h.push (.clo d caps))
      | none => .no)
    | none => .no)
  | .lc elt tg it ifs own, fr, h => (evalI it fr h).bind fun d h => (match compL (fun v fr h => assignT tg v fr h) (fun fr h => evalTs ifs fr h) (fun fr h => evalE elt fr h) d h.n turns 0 (wipeF own fr) (h.push (.lst [])) with
    | .ok _ h' => .ok (.obj h.n) h'
    | _ => .no)
  | .dc0 e, fr, h => (evalE e fr h).bind fun x h => (match x, isEmptyD h x with
    | .obj a, true => .ok (.obj h.n) ((h.set a (.dct [] true)).push (.dct [] false))
    | _, _ => .no)
  | .unk, _, _ => .no
def evalEs : IEs → Frame → OHeap → R (List PV)
  | .nil, _, h => .ok [] h
  | .cons e es, fr, h => (evalE e fr h).bind fun x h => (match clean x with
    | true => (evalEs es fr h).bind fun xs h => .ok (x :: xs) h
    | false => .no)
/-- a display's pairs -/
def evalKs : IKs → Frame → OHeap → R (List (PV × PV))
  | .nil, _, h => .ok [] h
  | .cons k v r, fr, h => (evalE k fr h).bind fun x h => (evalE v fr h).bind fun y h => (match clean x && clean y with
      | true => (evalKs r fr h).bind fun l h => .ok ((x, y) :: l) h
      | false => .no)
/-- tests, one behind another -/
def evalTs : IEs → Frame → OHeap → R Bool
  | .nil, _, h => .ok true h
  | .cons e es, fr, h => (evalE e fr h).bind fun x h => (match truth h x with
    | some true => evalTs es fr h
    | some false => .ok false h
    | none => .no)
def evalI : II → Frame → OHeap → R ID
  | .ex e, fr, h => (evalE e fr h).bind fun x h => (match srcOf h x with
    | some s => .ok (.one s) h
    | none => .no)
  | .rng1 e, fr, h => (evalE e fr h).bind fun x h => (match x with
    | .int j => (match bnd62 j with
      | true => .ok (.rng 0 j.toNat) h
      | false => .no)
    | _ => .no)
  | .rng2 a b, fr, h => (evalE a fr h).bind fun x h => (evalE b fr h).bind fun y h => (match x, y with
    | .int i, .int j => (match bnd62 i && bnd62 j with
      | true => .ok (.rng i (j - i).toNat) h
      | false => .no)
    | _, _ => .no)
  | .enm e, fr, h => (evalE e fr h).bind fun x h => (match srcOf h x with
    | some (.l a) => .ok (.enm a) h
    | _ => .no)
/-- a target takes a value -/
def assignT : IT → PV → Frame → OHeap → RS
  | .name i, v, fr, h => (match fput fr i v h with
    | some (fr, h) => .nx fr h
    | none => .no)
  | .tup ts, v, fr, h => (match v with
    | .tup xs => (match Nat.beq xs.length ts.len with
      | true => assignTs ts xs fr h
      | false => .no)
    | _ => .no)
  | .sub a i, v, fr, h => (evalE a fr h).toS fr fun x h => (evalE i fr h).toS fr fun y h => (match x, clean v with
    | .obj o, true => (match h.get o, y with
      | some (.lst xs), .int k => (match idx k xs.length with
        | some n => .nx fr (h.set o (.lst (xs.set n v)))
        | none => .no)
      | _, _ => .no)
    | _, _ => .no)
  | .fld a f, v, fr, h => (evalE a fr h).toS fr fun x h => (match x, clean v with
    | .obj o, true => (match h.get o with
      | some (.ins c fs) => (match hasFld P false c f && Nat.blt fs.length 1000 with
        | true => .nx fr (h.set o (.ins c (putN f v fs)))
        | false => .no)
      | _ => .no)
    | _, _ => .no)
def assignTs : ITs → List PV → Frame → OHeap → RS
  | .nil, vs, fr, h => (match vs with
    | [] => .nx fr h
    | _ => .no)
  | .cons t ts, vs, fr, h => (match vs with
    | x :: xs => (match assignT t x fr h with
      | .nx fr h => assignTs ts xs fr h
      | .ex e fr h => .ex e fr h
      | _ => .no)
    | [] => .no)
end

/-! ### statements -/
/-- an exception's fields, the last one first -/
def excF : List Nat → List PV → List (Nat × PV) → List (Nat × PV)
  | f :: fs, x :: xs, acc => excF fs xs ((f, x) :: acc)
  | _, _, acc => acc
def excMake (c : Nat) (xs : List PV) (h : OHeap) : Option OHeap := match P.clss.get c with
  | some K => (match K.exc with
    | some (f :: fs) => (match Nat.beq (fs.length + 1) xs.length with
      | true => some (h.push (.exc c (excF (f :: fs) xs [])))
      | false => none)
    | _ => none)
  | none => none
def takes (c : Nat) (g : Nat) : Option Bool := match P.globs.get g with
  | some (.cls k) => (match P.clss.get c, P.clss.get k with
    | some K, some Kk => (match K.exc, Kk.exc with
      | some _, some _ => some (K.mro.any fun x => Nat.beq x k)
      | _, _ => none)
    | _, _ => none)
  | _ => none
def slotFree (fr : Frame) (i : Nat) : Bool := match fr[i]? with
  | some (.v _) => true
  | some .n => true
  | _ => false
def cleanF : Frame → Bool
  | [] => true
  | .v x :: r => clean x && cleanF r
  | _ :: r => cleanF r
mutual
def evalS : IS → Frame → OHeap → RS
  | .expr e, fr, h => (evalE P C e fr h).toS fr fun _ h => .nx fr h
  | .asg t e, fr, h => (evalE P C e fr h).toS fr fun x h => (match clean x with
    | true => assignT P C t x fr h
    | false => .no)
  | .asg2 t u e, fr, h => (evalE P C e fr h).toS fr fun x h => (match clean x with
    | true => (match assignT P C t x fr h with
      | .nx fr h => assignT P C u x fr h
      | _ => .no)
    | false => .no)
  | .aug t op e, fr, h => (match t with
    | .name i => (match fget fr i h with
      | some x => (evalE P C e fr h).toS fr fun y h => (match x, y with
        | .int _, .int _ => (binop op x y h).toS fr fun z h => (match fput fr i z h with
          | some (fr, h) => .nx fr h
          | none => .no)
        | _, _ => .no)
      | none => .no)
    | _ => .no)
  | .ret e, fr, h => (evalE P C e fr h).toS fr fun x h => (match clean x with
    | true => .rt x fr h
    | false => .no)
  | .retN, fr, h => .rt .non fr h
  | .ite c a b, fr, h => (evalE P C c fr h).toS fr fun x h => (match truth h x with
    | some true => evalSs a fr h
    | some false => evalSs b fr h
    | none => .no)
  | .for_ t it b, fr, h => (evalI P C it fr h).toS fr fun d h => forL (fun v fr h => assignT P C t v fr h) (fun fr h => evalSs b fr h) d turns 0 fr h
  | .brk, fr, h => .bk fr h
  | .cnt, fr, h => .ct fr h
  | .pass, fr, h => .nx fr h
  | .raise g as, fr, h => (evalEs P C as fr h).toS fr fun xs h => (match P.globs.get g with
    | some (.cls c) => (match excMake P c xs h with
      | some h' => .ex h.n fr h'
      | none => .no)
    | _ => .no)
  | .try_ b hs, fr, h => (match evalSs b fr h with
    | .ex e fr h => evalHs hs e fr h
    | r => r)
  | .unk, _, _ => .no
def evalSs : ISs → Frame → OHeap → RS
  | .nil, fr, h => .nx fr h
  | .cons s ss, fr, h => (match evalS s fr h with
    | .nx fr h => evalSs ss fr h
    | r => r)
def evalHs : IHs → Nat → Frame → OHeap → RS
  | .nil, e, fr, h => .ex e fr h
  | .cons g i b hs, e, fr, h => (match h.get e with
    | some (.exc c _) => (match takes P c g with
      | some true => (match slotFree fr i with
        | true => (match evalSs b (fr.set i (.v (.exv e))) h with
          | .nx fr h => (match cleanF (fr.set i .n) with
            | true => .nx (fr.set i .n) h
            | false => .no)
          | _ => .no)
        | false => .no)
      | some false => evalHs hs e fr h
      | none => .no)
    | _ => .no)
end
end

/-! ### calls -/
/-- captured cells: filled, no two the same -/
def capsGood (h : OHeap) : List (Nat × Nat) → Bool
  | [] => true
  | (i, a) :: r => (match h.get a with
    | some (.cell (some _)) => true
    | _ => false) && !(r.any fun q => Nat.beq q.2 a || Nat.beq q.1 i) && capsGood h r
def callD (P : Prog) : Nat → CallH
  | 0 => fun _ _ _ _ => .no
  | n + 1 => fun d vs caps h => match P.dfns.get d with
    | some D => (match caps with
      | [] => (match evalSs P (callD P n) D.body (defStart D.cells (vs.map .v ++ List.replicate (D.ns - vs.length) .n) h).1 (defStart D.cells (vs.map .v ++ List.replicate (D.ns - vs.length) .n) h).2 with
        | .rt v _ h' => .ok v h'
        | .nx _ h' => .ok .non h'
        | .ex e _ h' => (match D.cells with
          | [] => .ex e h'
          | _ => .no)
        | _ => .no)
      | _ => (match D.body with
        | .cons (.ret e) .nil => (match vs with
          | [] => (match capsGood h caps with
            | true => (evalE P (callD P n) e (putCaps caps (List.replicate D.ns .n)) h).bind fun v h => (match clean v with
              | true => .ok v h
              | false => .no)
            | false => .no)
          | _ => .no)
        | _ => .no))
    | none => .no
end Py

/-! What ties the evaluator's values and own heap to the machine's. -/
set_option Elab.async false
set_option linter.all false
set_option maxRecDepth 100000
noncomputable section
namespace Py
open PySem PySem.Spec PyProof.Rows L2

/-! ### the tables of a text -/
/-- a def of the text -/
structure DT where
  at_ : Str × Option Str
  name : Str
  qual : Str
  params : Arguments
  body : List Stmt
  scope : Scope
  N : List Str
  ps : List Str
  /-- the defaults' values -/
  dfl : List He.Dv := []
  /-- lambdas are made in it -/
  lb : Bool := false
/-- a lambda of the text -/
structure LT where
  params : Arguments
  body : PySem.Expr
  scope : Scope
  N : List Str
  qual : Str
/-- the defs by their numbers -/
structure DTs where
  l : List (Nat × DT)
def DTs.get (t : DTs) (d : Nat) : Option DT := lookN d t.l
structure Tb where
  P : Prog
  gn : List Str
  an : List Str
  cn : List Str
  dt : DTs
  lt : Nat → LT → Prop
  /-- names that the text does not define -/
  fr : List Str

section
variable (T : Tb) (K : PySem.W.Frag) (tl : List (Addr × Str))
def cAdr (c : Nat) : Addr := match T.cn[c]? with
  | some x => He.ga K x
  | none => 0
section
variable (ρ : List Addr) (H : Hp)
mutual
def VR : PV → V → Prop
  | .non, v => v = .non
  | .bl b, v => v = .bl b
  | .int i, v => v = .int i
  | .str x, v => v = .str x
  | .obj a, v => ∃ p, v = .ref p ∧ ρ[a]? = some p
  | .glo g, v => ∃ x, v = .ref (He.ga K x) ∧ T.gn[g]? = some x
  | .tup xs, v => ∃ p vs, v = .ref p ∧ SqT K H p vs ∧ VRs xs vs
  | .exv _, _ => False
def VRs : List PV → List V → Prop
  | [], vs => vs = []
  | x :: xs, vs => ∃ y ys, vs = y :: ys ∧ VR x y ∧ VRs xs ys
end
/-- fields -/
def FR : List (Nat × PV) → List (Str × V) → Prop
  | [], fs => fs = []
  | (f, x) :: r, fs => ∃ n y q, fs = (n, y) :: q ∧ T.an[f]? = some n ∧ VR T K ρ H x y ∧ FR r q
/-- keys of a dict -/
def KR : PV → Key → Prop
  | .int i, k => k = .inl i
  | .str x, k => k = .inr x
  | _, _ => False
def DR : List (PV × PV) → List (Key × V) → Prop
  | [], es => es = []
  | (a, x) :: r, es => ∃ k y q, es = (k, y) :: q ∧ KR a k ∧ VR T K ρ H x y ∧ DR r q
/-- a lambda's object -/
def CloR (d : Nat) (caps : List (Nat × Nat)) (fo : Obj) : Prop :=
  ∃ (L : LT) (cl : List (Str × Addr)) (pm : Value) (c : Addr) (ct : Value), T.lt d L ∧
    fo = PySem.W.kla_obj "<lambda>" L.qual L.params L.body L.scope cl pm c ct ∧ H c = some (LamX.CodeO c L.qual) ∧
    (∀ n c, cl.lookup n = some c → ∃ j b, L.N[j]? = some n ∧ lookN j caps = some b ∧ ρ[b]? = some c) ∧
    ∀ n ∈ L.scope.names, n.2 = .free → ∃ c, cl.lookup n.1 = some c
def OR (own : List Nat) (a : Nat) (p : Addr) : HObj → Prop
  | .lst xs => ∃ vs, H p = some (.lst vs) ∧ VRs T K ρ H xs vs
  | .rol xs => ∃ vs, VRs T K ρ H xs vs ∧ ((∃ o, H p = some (.frz o (.lst vs))) ∨ SqL K (fun _ => none) p vs)
  | .dct kvs lk => ∃ es, DR T K ρ H kvs es ∧ match lk with
    | false => H p = some (.dK es)
    | true => ∃ o, H p = some (.frz o (.dK es))
  | .ins c fs => ∃ dx fs', H p = some (.ins (cAdr T K c) dx fs') ∧ FR T K ρ H fs fs'
  | .cell v => a ∈ own ∨ ∃ oc, H p = some (.frz oc (.own 0)) ∧ ∀ x, v = some x → ∃ u y, oc.data = .cell (some u) ∧ RelV y u ∧ VR T K ρ H x y
  | .clo d caps => ∃ fo, H p = some (.frz fo (.own 1)) ∧ CloR T ρ H d caps fo
  | .exc c fs => ∃ fs', H p = some (.xd fs') ∧ FR T K ρ H fs fs'
  | .any => True
end
/-- nothing is known of H at its address -/
def loose (own : List Nat) (a : Nat) : HObj → Prop
  | .cell _ => a ∈ own
  | .rol _ => True
  | .any => True
  | _ => False
structure HR (own : List Nat) (ρ : List Addr) (h : OHeap) (H : Hp) : Prop where
  len : ρ.length = h.n
  obj : ∀ a p, ρ[a]? = some p → ∃ o, h.get a = some o ∧ OR T K ρ H own a p o
  nd : ∀ a b o o' p, h.get a = some o → h.get b = some o' → ¬ loose own a o → ¬ loose own b o' → ρ[a]? = some p → ρ[b]? = some p → a = b
  tab : LamX.Tabs tl H
/-- cells, exceptions -/
def fixd : HObj → Bool
  | .cell _ => true
  | .exc _ _ => true
  | _ => false
structure Ext (own : List Nat) (ρ : List Addr) (h : OHeap) (H : Hp) (ρ' : List Addr) (h' : OHeap) (H' : Hp) : Prop where
  pre : ρ <+: ρ'
  tup : ∀ p vs, SqT K H p vs → SqT K H' p vs
  fix : ∀ a o, a ∉ own → h.get a = some o → fixd o = true → h'.get a = some o
end

/-! ### the own heap -/
def Tr.getO {α : Type} : Tr α → Nat → Option α
  | .nil, _ => none
  | .node v l r, k => match k with
    | 0 => v
    | k + 1 => match Nat.beq (k % 2) 0 with
      | true => l.getO (k / 2)
      | false => r.getO (k / 2)
def Tr.setFO {α : Type} : Nat → Tr α → Nat → α → Tr α
  | 0, t, _, _ => t
  | f + 1, t, k, v => match k with
    | 0 => (match t with
      | .nil => .node (some v) .nil .nil
      | .node _ l r => .node (some v) l r)
    | k + 1 => match Nat.beq (k % 2) 0 with
      | true => (match t with
        | .nil => .node none (Tr.setFO f .nil (k / 2) v) .nil
        | .node o l r => .node o (Tr.setFO f l (k / 2) v) r)
      | false => (match t with
        | .nil => .node none .nil (Tr.setFO f .nil (k / 2) v)
        | .node o l r => .node o l (Tr.setFO f r (k / 2) v))
theorem Tr.get_eqO {α : Type} : ∀ (t : Tr α) (k : Nat), t.get k = t.getO k
  | .nil, _ => rfl
  | .node v l r, 0 => rfl
  | .node v l r, k + 1 => by
    show (Bool.rec (motive := fun _ => Option α) (r.get (k / 2)) (l.get (k / 2)) (Nat.beq (k % 2) 0) : Option α) = (match Nat.beq (k % 2) 0 with
      | true => l.getO (k / 2)
      | false => r.getO (k / 2))
    rw [Tr.get_eqO l, Tr.get_eqO r]
    cases Nat.beq (k % 2) 0 <;> rfl
theorem Tr.setF_eqO {α : Type} : ∀ (f : Nat) (t : Tr α) (k : Nat) (v : α), Tr.setF f t k v = Tr.setFO f t k v
  | 0, t, k, v => rfl
  | f + 1, t, 0, v => by cases t <;> rfl
  | f + 1, t, k + 1, v => by
    show (Bool.rec (motive := fun _ => Tr α) (Tr.sZr (Tr.setF f) (k / 2) v t) (Tr.sZl (Tr.setF f) (k / 2) v t) (Nat.beq (k % 2) 0) : Tr α) = (match Nat.beq (k % 2) 0 with
      | true => (match t with
        | .nil => .node none (Tr.setFO f .nil (k / 2) v) .nil
        | .node o l r => .node o (Tr.setFO f l (k / 2) v) r)
      | false => (match t with
        | .nil => .node none .nil (Tr.setFO f .nil (k / 2) v)
        | .node o l r => .node o l (Tr.setFO f r (k / 2) v)))
    cases Nat.beq (k % 2) 0 with
    | true => cases t with
      | nil => exact congrArg (fun z => Tr.node none z .nil) (Tr.setF_eqO f _ _ _)
      | node o l r => exact congrArg (fun z => Tr.node o z r) (Tr.setF_eqO f _ _ _)
    | false => cases t with
      | nil => exact congrArg (fun z => Tr.node none .nil z) (Tr.setF_eqO f _ _ _)
      | node o l r => exact congrArg (fun z => Tr.node o l z) (Tr.setF_eqO f _ _ _)
theorem Tr.get_setO {α : Type} : ∀ (f : Nat) (t : Tr α) (k k' : Nat) (v : α), k < f → (Tr.setFO f t k v).getO k' = if k' = k then some v else t.getO k'
  | 0, _, _, _, _, h => absurd h (Nat.not_lt_zero _)
  | f + 1, t, k, k', v, h => by
    cases k with
    | zero =>
      cases t with
      | nil =>
        cases k' with
        | zero => rfl
        | succ m =>
          show (match Nat.beq (m % 2) 0 with | true => Tr.getO .nil (m / 2) | false => Tr.getO .nil (m / 2)) = none
          cases Nat.beq (m % 2) 0 <;> rfl
      | node o l r =>
        cases k' with
        | zero => rfl
        | succ m => rfl
    | succ n =>
      have hn : n / 2 < f := by omega
      have ih : ∀ t k', (Tr.setFO f t (n / 2) v).getO k' = if k' = n / 2 then some v else t.getO k' := fun t k' => Tr.get_setO f t (n / 2) k' v hn
      have nilG : ∀ k, (Tr.nil : Tr α).getO k = none := fun k => by cases k <;> rfl
      cases hb : Nat.beq (n % 2) 0 with
      | true =>
        have h2 : n % 2 = 0 := Nat.eq_of_beq_eq_true hb
        have key : ∀ (o : Option α) (l r : Tr α), (Tr.node o (Tr.setFO f l (n / 2) v) r).getO k' = if k' = n + 1 then some v else (Tr.node o l r).getO k' := fun o l r => by
          cases k' with
          | zero => rfl
          | succ m =>
            show (match Nat.beq (m % 2) 0 with | true => (Tr.setFO f l (n / 2) v).getO (m / 2) | false => r.getO (m / 2)) = if m + 1 = n + 1 then some v else (match Nat.beq (m % 2) 0 with | true => l.getO (m / 2) | false => r.getO (m / 2))
            cases hm : Nat.beq (m % 2) 0 with
            | true =>
              have h3 : m % 2 = 0 := Nat.eq_of_beq_eq_true hm
              dsimp only
              rw [ih]
              by_cases e : m / 2 = n / 2
              · rw [if_pos e, if_pos (show m + 1 = n + 1 by omega)]
              · rw [if_neg e, if_neg (show ¬ m + 1 = n + 1 by omega)]
            | false =>
              have h3 : ¬ m % 2 = 0 := Nat.ne_of_beq_eq_false hm
              dsimp only
              rw [if_neg (show ¬ m + 1 = n + 1 by omega)]
        cases t with
        | nil =>
          show (match Nat.beq (n % 2) 0 with | true => Tr.node none (Tr.setFO f .nil (n / 2) v) .nil | false => _).getO k' = _
          rw [hb]
          dsimp only
          rw [key, nilG]
          by_cases e : k' = n + 1
          · rw [if_pos e, if_pos e]
          · rw [if_neg e, if_neg e]
            cases k' with
            | zero => rfl
            | succ m =>
              show (match Nat.beq (m % 2) 0 with | true => Tr.getO .nil (m / 2) | false => Tr.getO .nil (m / 2)) = none
              cases Nat.beq (m % 2) 0 <;> exact nilG _
        | node o l r =>
          show (match Nat.beq (n % 2) 0 with | true => Tr.node o (Tr.setFO f l (n / 2) v) r | false => _).getO k' = _
          rw [hb]
          exact key o l r
      | false =>
        have h2 : ¬ n % 2 = 0 := Nat.ne_of_beq_eq_false hb
        have key : ∀ (o : Option α) (l r : Tr α), (Tr.node o l (Tr.setFO f r (n / 2) v)).getO k' = if k' = n + 1 then some v else (Tr.node o l r).getO k' := fun o l r => by
          cases k' with
          | zero => rfl
          | succ m =>
            show (match Nat.beq (m % 2) 0 with | true => l.getO (m / 2) | false => (Tr.setFO f r (n / 2) v).getO (m / 2)) = if m + 1 = n + 1 then some v else (match Nat.beq (m % 2) 0 with | true => l.getO (m / 2) | false => r.getO (m / 2))
            cases hm : Nat.beq (m % 2) 0 with
            | true =>
              have h3 : m % 2 = 0 := Nat.eq_of_beq_eq_true hm
              dsimp only
              rw [if_neg (show ¬ m + 1 = n + 1 by omega)]
            | false =>
              have h3 : ¬ m % 2 = 0 := Nat.ne_of_beq_eq_false hm
              dsimp only
              rw [ih]
              by_cases e : m / 2 = n / 2
              · rw [if_pos e, if_pos (show m + 1 = n + 1 by omega)]
              · rw [if_neg e, if_neg (show ¬ m + 1 = n + 1 by omega)]
        cases t with
        | nil =>
          show (match Nat.beq (n % 2) 0 with | true => _ | false => Tr.node none .nil (Tr.setFO f .nil (n / 2) v)).getO k' = _
          rw [hb]
          dsimp only
          rw [key, nilG]
          by_cases e : k' = n + 1
          · rw [if_pos e, if_pos e]
          · rw [if_neg e, if_neg e]
            cases k' with
            | zero => rfl
            | succ m =>
              show (match Nat.beq (m % 2) 0 with | true => Tr.getO .nil (m / 2) | false => Tr.getO .nil (m / 2)) = none
              cases Nat.beq (m % 2) 0 <;> exact nilG _
        | node o l r =>
          show (match Nat.beq (n % 2) 0 with | true => _ | false => Tr.node o l (Tr.setFO f r (n / 2) v)).getO k' = _
          rw [hb]
          exact key o l r
theorem Tr.get_set {α : Type} (f : Nat) (t : Tr α) (k k' : Nat) (v : α) (h : k < f) : (Tr.setF f t k v).get k' = if k' = k then some v else t.get k' := by
  rw [Tr.get_eqO, Tr.get_eqO, Tr.setF_eqO]
  exact Tr.get_setO f t k k' v h
theorem OHeap.get_lt {h : OHeap} {a : Nat} {o : HObj} (e : h.get a = some o) : a < h.n := by
  unfold OHeap.get at e
  cases hb : Nat.blt a h.n with
  | true => exact Nat.le_of_ble_eq_true hb
  | false => rw [hb] at e; cases e
theorem OHeap.get_set {h : OHeap} {a b : Nat} {o : HObj} (ha : a < h.n) : (h.set a o).get b = if b = a then some o else h.get b := by
  unfold OHeap.get OHeap.set Tr.set
  dsimp only
  rw [Tr.get_set (a + 1) h.t a b o (Nat.lt_succ_self a)]
  by_cases e : b = a
  · rw [if_pos e, if_pos e, e]
    rw [show Nat.blt a h.n = true from Nat.ble_eq_true_of_le ha]
  · rw [if_neg e, if_neg e]
theorem OHeap.get_push {h : OHeap} {b : Nat} {o : HObj} : (h.push o).get b = if b = h.n then some o else h.get b := by
  unfold OHeap.get OHeap.push Tr.set
  dsimp only
  rw [Tr.get_set (h.n + 1) h.t h.n b o (Nat.lt_succ_self _)]
  by_cases e : b = h.n
  · rw [if_pos e, if_pos e, e]
    rw [show Nat.blt h.n (h.n + 1) = true from Nat.ble_eq_true_of_le (Nat.le_refl _)]
  · rw [if_neg e, if_neg e]
    cases hb : Nat.blt b h.n with
    | true =>
      have : b < h.n := Nat.le_of_ble_eq_true hb
      rw [show Nat.blt b (h.n + 1) = true from Nat.ble_eq_true_of_le (by omega)]
    | false =>
      have h1 : ¬ b < h.n := fun q => by
        rw [show Nat.blt b h.n = true from Nat.ble_eq_true_of_le q] at hb
        cases hb
      have h2 : ¬ b < h.n + 1 := by omega
      cases hc : Nat.blt b (h.n + 1) with
      | false => rfl
      | true => exact absurd (Nat.le_of_ble_eq_true hc) h2
theorem OHeap.n_set {h : OHeap} {a : Nat} {o : HObj} : (h.set a o).n = h.n := rfl
theorem OHeap.n_push {h : OHeap} {o : HObj} : (h.push o).n = h.n + 1 := rfl
end Py

/-! How the tie bears steps of both heaps. -/
set_option Elab.async false
set_option linter.all false
set_option maxRecDepth 100000
noncomputable section
namespace Py
open PySem PySem.Spec PyProof.Rows L2
section
variable {T : Tb} {K : PySem.W.Frag} {tl : List (Addr × Str)} {ρ ρ' ρ'' : List Addr} {H H' H'' : Hp} {h h' h'' : OHeap} {own : List Nat}

theorem pre_get {a : Nat} {p : Addr} (q : ρ <+: ρ') (e : ρ[a]? = some p) : ρ'[a]? = some p := by
  obtain ⟨t, rfl⟩ := q
  rw [List.getElem?_append_left (List.getElem?_eq_some_iff.mp e).1]
  exact e

section
variable (q : ρ <+: ρ') (ht : ∀ p vs, SqT K H p vs → SqT K H' p vs)
include q ht
mutual
theorem VR.mono : ∀ {x : PV} {v : V}, VR T K ρ H x v → VR T K ρ' H' x v
  | .non, _, r => r
  | .bl _, _, r => r
  | .int _, _, r => r
  | .str _, _, r => r
  | .obj _, _, ⟨p, e, r⟩ => ⟨p, e, pre_get q r⟩
  | .glo _, _, r => r
  | .tup _, _, ⟨p, vs, e, r, s⟩ => ⟨p, vs, e, ht _ _ r, VRs.mono s⟩
theorem VRs.mono : ∀ {xs : List PV} {vs : List V}, VRs T K ρ H xs vs → VRs T K ρ' H' xs vs
  | [], _, r => r
  | _ :: _, _, ⟨y, ys, e, r, s⟩ => ⟨y, ys, e, VR.mono r, VRs.mono s⟩
end
theorem FR.mono : ∀ {fs : List (Nat × PV)} {gs : List (Str × V)}, FR T K ρ H fs gs → FR T K ρ' H' fs gs
  | [], _, r => r
  | (_, _) :: _, _, ⟨n, y, t, e, a, r, s⟩ => ⟨n, y, t, e, a, r.mono q ht, FR.mono s⟩
theorem DR.mono : ∀ {fs : List (PV × PV)} {gs : List (Key × V)}, DR T K ρ H fs gs → DR T K ρ' H' fs gs
  | [], _, r => r
  | (_, _) :: _, _, ⟨n, y, t, e, a, r, s⟩ => ⟨n, y, t, e, a, r.mono q ht, DR.mono s⟩
end

theorem VRs.length : ∀ {xs : List PV} {vs : List V}, VRs T K ρ H xs vs → xs.length = vs.length
  | [], _, r => by
    have e : _ = [] := r
    rw [e]
    rfl
  | _ :: _, _, ⟨y, ys, e, r, s⟩ => by rw [e, List.length_cons, List.length_cons, VRs.length s]
theorem VRs.get : ∀ {xs : List PV} {vs : List V} {i : Nat} {x : PV}, VRs T K ρ H xs vs → xs[i]? = some x → ∃ v, vs[i]? = some v ∧ VR T K ρ H x v
  | [], _, _, _, _, e => by simp at e
  | y :: ys, _, 0, x, ⟨v, vs, e, r, s⟩, h => by
    have : y = x := by simpa using h
    subst this
    subst e
    exact ⟨v, rfl, r⟩
  | y :: ys, _, i + 1, x, ⟨v, vs, e, r, s⟩, h => by
    subst e
    obtain ⟨w, h1, h2⟩ := VRs.get (i := i) s (by simpa using h)
    exact ⟨w, by simpa using h1, h2⟩
theorem VRs.get' : ∀ {xs : List PV} {vs : List V} {i : Nat} {v : V}, VRs T K ρ H xs vs → vs[i]? = some v → ∃ x, xs[i]? = some x ∧ VR T K ρ H x v := fun {xs vs i v} r e => by
  have hl := r.length
  have hi : i < xs.length := by rw [hl]; exact (List.getElem?_eq_some_iff.mp e).1
  have ex : xs[i]? = some xs[i] := List.getElem?_eq_getElem hi
  obtain ⟨w, h1, h2⟩ := r.get ex
  rw [e] at h1
  cases h1
  exact ⟨_, ex, h2⟩
theorem VRs.app : ∀ {xs ys : List PV} {vs ws : List V}, VRs T K ρ H xs vs → VRs T K ρ H ys ws → VRs T K ρ H (xs ++ ys) (vs ++ ws)
  | [], _, _, _, r, s => by
    rw [show _ = [] from r]
    exact s
  | _ :: _, _, _, _, ⟨v, vs, e, r, t⟩, s => by
    rw [e]
    exact ⟨v, _, rfl, r, t.app s⟩
theorem VRs.take : ∀ (n : Nat) {xs : List PV} {vs : List V}, VRs T K ρ H xs vs → VRs T K ρ H (xs.take n) (vs.take n)
  | 0, _, _, _ => by rw [List.take_zero, List.take_zero]; rfl
  | n + 1, [], _, r => by rw [show _ = [] from r]; rfl
  | n + 1, _ :: _, _, ⟨v, vs, e, r, t⟩ => by
    rw [e]
    exact ⟨v, _, rfl, r, VRs.take n t⟩
theorem VRs.drop : ∀ (n : Nat) {xs : List PV} {vs : List V}, VRs T K ρ H xs vs → VRs T K ρ H (xs.drop n) (vs.drop n)
  | 0, _, _, r => r
  | n + 1, [], _, r => by rw [show _ = [] from r]; rfl
  | n + 1, _ :: _, _, ⟨v, vs, e, r, t⟩ => by
    rw [e]
    exact VRs.drop n t
theorem VRs.set {x : PV} {v : V} (q : VR T K ρ H x v) : ∀ (n : Nat) {xs : List PV} {vs : List V}, VRs T K ρ H xs vs → VRs T K ρ H (xs.set n x) (vs.set n v)
  | _, [], _, r => by rw [show _ = [] from r]; rfl
  | 0, _ :: _, _, ⟨w, ws, e, r, t⟩ => by
    rw [e]
    exact ⟨v, ws, rfl, q, t⟩
  | n + 1, _ :: _, _, ⟨w, ws, e, r, t⟩ => by
    rw [e]
    exact ⟨w, _, rfl, r, VRs.set q n t⟩
theorem VRs.rev : ∀ {xs : List PV} {vs : List V}, VRs T K ρ H xs vs → VRs T K ρ H xs.reverse vs.reverse
  | [], _, r => by rw [show _ = [] from r]; rfl
  | _ :: _, _, ⟨w, ws, e, r, t⟩ => by
    rw [e, List.reverse_cons, List.reverse_cons]
    exact t.rev.app ⟨w, [], rfl, r, rfl⟩
theorem VRs.one {x : PV} {v : V} (q : VR T K ρ H x v) : VRs T K ρ H [x] [v] := ⟨v, [], rfl, q, rfl⟩
theorem VRs.cons {x : PV} {xs : List PV} {v : V} {vs : List V} (q : VR T K ρ H x v) (r : VRs T K ρ H xs vs) : VRs T K ρ H (x :: xs) (v :: vs) := ⟨v, vs, rfl, q, r⟩
theorem VRs.rep {x : PV} {v : V} (q : VR T K ρ H x v) : ∀ n, VRs T K ρ H (List.replicate n x) (List.replicate n v)
  | 0 => rfl
  | n + 1 => ⟨v, _, rfl, q, VRs.rep q n⟩
theorem VR.clean : ∀ {x : PV} {v : V}, VR T K ρ H x v → clean x = true
  | .non, _, _ => rfl
  | .bl _, _, _ => rfl
  | .int _, _, _ => rfl
  | .str _, _, _ => rfl
  | .obj _, _, _ => rfl
  | .glo _, _, _ => rfl
  | .tup _, _, _ => rfl

/-! ### what a step of H must keep -/
/-- what may be written at p: nothing that stands, or a list, a dict, an instance -/
def Wr (o : Option HO) : Prop := match o with
  | none => True
  | some (.lst _) => True
  | some (.dK _) => True
  | some (.ins _ _ _) => True
  | _ => False
theorem sqT_upd {p : Addr} {u : HO} (w : Wr (H p)) : ∀ q vs, SqT K H q vs → SqT K (upd H p u) q vs := fun q vs r => by
  rcases r with (r | ⟨o, r⟩) | r
  · refine .inl (.inl ?_)
    rw [upd_ne]
    · exact r
    · intro e; subst e; rw [r] at w; exact w
  · refine .inl (.inr ⟨o, ?_⟩)
    rw [upd_ne]
    · exact r
    · intro e; subst e; rw [r] at w; exact w
  · exact .inr r
theorem frz_upd {p : Addr} {u : HO} (w : Wr (H p)) : ∀ q o x, H q = some (.frz o x) → upd H p u q = some (.frz o x) := fun q o x r => by
  rw [upd_ne]
  · exact r
  · intro e; subst e; rw [r] at w; exact w
theorem ext_upd {p : Addr} {u : HO} (w : Wr (H p)) : ∀ q φ, H q = some (.ext φ) → upd H p u q = some (.ext φ) := fun q φ r => by
  rw [upd_ne]
  · exact r
  · intro e; subst e; rw [r] at w; exact w
theorem tbl_upd {p : Addr} {u : HO} (w : Wr (H p)) : ∀ q ps, H q = some (.tbl ps) → upd H p u q = some (.tbl ps) := fun q ps r => by
  rw [upd_ne]
  · exact r
  · intro e; subst e; rw [r] at w; exact w
theorem tabs_upd {p : Addr} {u : HO} (w : Wr (H p)) (t : LamX.Tabs tl H) : LamX.Tabs tl (upd H p u) := fun r hr => by
  obtain ⟨ps, h1, h2, h3⟩ := t r hr
  refine ⟨ps, tbl_upd w _ _ h1, h2, fun pos cv hc => ?_⟩
  obtain ⟨c, e1, e2⟩ := h3 pos cv hc
  exact ⟨c, e1, ext_upd w _ _ e2⟩
/-- a step that keeps the frozen, the codes, the tuples, and what stands at p -/
theorem OR.mono {a : Nat} {p : Addr} {o : HObj} (q : ρ <+: ρ') (ht : ∀ p vs, SqT K H p vs → SqT K H' p vs) (hf : ∀ q o x, H q = some (.frz o x) → H' q = some (.frz o x)) (he : ∀ q φ, H q = some (.ext φ) → H' q = some (.ext φ))
    (hp : ¬ loose own a o → H' p = H p) (r : OR T K ρ H own a p o) : OR T K ρ' H' own a p o := by
  cases o with
  | lst xs =>
    obtain ⟨vs, e, r⟩ := r
    exact ⟨vs, by rw [hp (fun z => z)]; exact e, r.mono q ht⟩
  | rol xs =>
    obtain ⟨vs, r, s⟩ := r
    refine ⟨vs, r.mono q ht, ?_⟩
    rcases s with ⟨o, s⟩ | s
    · exact .inl ⟨o, hf _ _ _ s⟩
    · exact .inr s
  | dct kvs lk =>
    obtain ⟨es, r, s⟩ := r
    refine ⟨es, r.mono q ht, ?_⟩
    cases lk with
    | false => rw [hp (fun z => z)]; exact s
    | true =>
      obtain ⟨o, s⟩ := s
      exact ⟨o, hf _ _ _ s⟩
  | ins c fs =>
    obtain ⟨dx, fs', e, r⟩ := r
    exact ⟨dx, fs', by rw [hp (fun z => z)]; exact e, r.mono q ht⟩
  | cell v =>
    rcases r with r | ⟨oc, e, r⟩
    · exact .inl r
    · refine .inr ⟨oc, hf _ _ _ e, fun x z => ?_⟩
      obtain ⟨u, y, e1, e2, e3⟩ := r x z
      exact ⟨u, y, e1, e2, e3.mono q ht⟩
  | clo d caps =>
    obtain ⟨fo, e, L, cl, pm, c, ct, e1, e2, e3, e4, e5⟩ := r
    exact ⟨fo, hf _ _ _ e, L, cl, pm, c, ct, e1, e2, he _ _ e3, fun n c hc => let ⟨j, b, h1, h2, h3⟩ := e4 n c hc; ⟨j, b, h1, h2, pre_get q h3⟩, e5⟩
  | exc c fs =>
    obtain ⟨fs', e, r⟩ := r
    exact ⟨fs', by rw [hp (fun z => z)]; exact e, r.mono q ht⟩
  | any => exact True.intro
theorem OR.tracked {a : Nat} {p : Addr} {o : HObj} (n : ¬ loose own a o) (r : OR T K ρ H own a p o) : ∃ u, H p = some u := by
  cases o with
  | lst xs => obtain ⟨vs, e, r⟩ := r; exact ⟨_, e⟩
  | rol xs => exact absurd True.intro n
  | dct kvs lk =>
    obtain ⟨es, r, s⟩ := r
    cases lk with
    | false => exact ⟨_, s⟩
    | true => obtain ⟨o, s⟩ := s; exact ⟨_, s⟩
  | ins c fs => obtain ⟨dx, fs', e, r⟩ := r; exact ⟨_, e⟩
  | cell v =>
    rcases r with r | ⟨oc, e, r⟩
    · exact absurd r n
    · exact ⟨_, e⟩
  | clo d caps => obtain ⟨fo, e, _⟩ := r; exact ⟨_, e⟩
  | exc c fs => obtain ⟨fs', e, r⟩ := r; exact ⟨_, e⟩
  | any => exact absurd True.intro n
/-- what is loose stays loose whatever else is its own -/
theorem HR.at (R : HR T K tl own ρ h H) {a : Nat} {o : HObj} (e : h.get a = some o) : ∃ p, ρ[a]? = some p ∧ OR T K ρ H own a p o := by
  have hl : a < ρ.length := by rw [R.len]; exact OHeap.get_lt e
  obtain ⟨o', e1, r⟩ := R.obj a _ (List.getElem?_eq_getElem hl)
  rw [e] at e1
  cases e1
  exact ⟨_, List.getElem?_eq_getElem hl, r⟩
theorem HR.atp (R : HR T K tl own ρ h H) {a : Nat} {p : Addr} {o : HObj} (e : h.get a = some o) (q : ρ[a]? = some p) : OR T K ρ H own a p o := by
  obtain ⟨p', e1, r⟩ := R.at e
  rw [q] at e1
  cases e1
  exact r
/-- a new object, laid at a free place -/
theorem HR.push (R : HR T K tl own ρ h H) {p : Addr} {u : HO} {o : HObj} (hp : H p = none) (nl : ¬ loose own h.n o) (new : OR T K (ρ ++ [p]) (upd H p u) own h.n p o) : HR T K tl own (ρ ++ [p]) (h.push o) (upd H p u) := by
  have w : Wr (H p) := by rw [hp]; exact True.intro
  have q : ρ <+: ρ ++ [p] := List.prefix_append _ _
  have at_ : ∀ {b p' : Nat}, (ρ ++ [p])[b]? = some p' → (b < h.n ∧ ρ[b]? = some p') ∨ (b = h.n ∧ p' = p) := fun {b p'} e => by
    by_cases hb : b < ρ.length
    · rw [List.getElem?_append_left hb] at e
      exact .inl ⟨by rw [← R.len]; exact hb, e⟩
    · rw [List.getElem?_append_right (Nat.le_of_not_lt hb)] at e
      cases hk : b - ρ.length with
      | zero =>
        rw [hk] at e
        exact .inr ⟨by rw [← R.len]; omega, (Option.some.inj e).symm⟩
      | succ k => rw [hk] at e; cases e
  refine ⟨by rw [List.length_append, R.len]; rfl, fun b p' e => ?_, fun a b o1 o2 p' e1 e2 n1 n2 r1 r2 => ?_, tabs_upd w R.tab⟩
  · rcases at_ e with ⟨hb, e⟩ | ⟨hb, e2⟩
    · obtain ⟨o', e1, r⟩ := R.obj b p' e
      refine ⟨o', by rw [OHeap.get_push, if_neg (Nat.ne_of_lt hb)]; exact e1, r.mono q (sqT_upd w) (frz_upd w) (ext_upd w) fun n => ?_⟩
      obtain ⟨v, e3⟩ := r.tracked n
      exact upd_ne (ne_of_none e3 hp)
    · subst hb e2
      exact ⟨o, by rw [OHeap.get_push, if_pos rfl], new⟩
  · have tr : ∀ {b o' p'}, h.get b = some o' → ¬ loose own b o' → ρ[b]? = some p' → p' ≠ p := fun {b o' p'} e n r => by
      obtain ⟨v, e3⟩ := (R.atp e r).tracked n
      exact ne_of_none e3 hp
    rcases at_ r1 with ⟨ha, r1⟩ | ⟨ha, r1⟩
    · rw [OHeap.get_push, if_neg (Nat.ne_of_lt ha)] at e1
      rcases at_ r2 with ⟨hb, r2⟩ | ⟨hb, r2⟩
      · rw [OHeap.get_push, if_neg (Nat.ne_of_lt hb)] at e2
        exact R.nd a b o1 o2 p' e1 e2 n1 n2 r1 r2
      · exact absurd r2 (tr e1 n1 r1)
    · rcases at_ r2 with ⟨hb, r2⟩ | ⟨hb, r2⟩
      · rw [OHeap.get_push, if_neg (Nat.ne_of_lt hb)] at e2
        exact absurd r1 (tr e2 n2 r2)
      · rw [ha, hb]
/-- an object is written -/
theorem HR.set (R : HR T K tl own ρ h H) {a : Nat} {p : Addr} {u : HO} {o₀ o : HObj} (e : h.get a = some o₀) (r : ρ[a]? = some p) (n₀ : ¬ loose own a o₀) (w : Wr (H p)) (nl : ¬ loose own a o) (new : OR T K ρ (upd H p u) own a p o) :
    HR T K tl own ρ (h.set a o) (upd H p u) := by
  have ha := OHeap.get_lt e
  refine ⟨R.len, fun b p' e' => ?_, fun b c o1 o2 p' e1 e2 n1 n2 r1 r2 => ?_, tabs_upd w R.tab⟩
  · by_cases hb : b = a
    · subst hb
      rw [r] at e'
      cases e'
      exact ⟨o, by rw [OHeap.get_set ha, if_pos rfl], new⟩
    · obtain ⟨o', e1, r'⟩ := R.obj b p' e'
      refine ⟨o', by rw [OHeap.get_set ha, if_neg hb]; exact e1, r'.mono (List.prefix_refl _) (sqT_upd w) (frz_upd w) (ext_upd w) fun n => ?_⟩
      refine upd_ne fun z => hb ?_
      subst z
      exact R.nd b a o' o₀ _ e1 e n n₀ e' r
  · have back : ∀ {b o'}, (h.set a o).get b = some o' → ¬ loose own b o' → ∃ o'', h.get b = some o'' ∧ ¬ loose own b o'' := fun {b o'} e1 n => by
      by_cases hb : b = a
      · subst hb
        exact ⟨o₀, e, n₀⟩
      · rw [OHeap.get_set ha, if_neg hb] at e1
        exact ⟨o', e1, n⟩
    obtain ⟨o1', e1', n1'⟩ := back e1 n1
    obtain ⟨o2', e2', n2'⟩ := back e2 n2
    exact R.nd b c o1' o2' p' e1' e2' n1' n2' r1 r2

theorem Ext.refl : Ext K own ρ h H ρ h H := ⟨List.prefix_refl _, fun _ _ r => r, fun _ _ _ e _ => e⟩
theorem Ext.trans {own' : List Nat} (hs : ∀ a ∈ own', a ∈ own ∨ h.get a = none) (x : Ext K own ρ h H ρ' h' H') (y : Ext K own' ρ' h' H' ρ'' h'' H'') : Ext K own ρ h H ρ'' h'' H'' :=
  ⟨x.pre.trans y.pre, fun p vs r => y.tup _ _ (x.tup _ _ r), fun a o n e f => y.fix a o (fun z => by
    rcases hs a z with z | z
    · exact n z
    · rw [e] at z; cases z) (x.fix a o n e f) f⟩
theorem Ext.tr (x : Ext K own ρ h H ρ' h' H') (y : Ext K own ρ' h' H' ρ'' h'' H'') : Ext K own ρ h H ρ'' h'' H'' := x.trans (fun _ z => .inl z) y
theorem Ext.up {own' : List Nat} (hs : ∀ a ∈ own, a ∈ own') (x : Ext K own ρ h H ρ' h' H') : Ext K own' ρ h H ρ' h' H' := ⟨x.pre, x.tup, fun a o n e f => x.fix a o (fun z => n (hs a z)) e f⟩
theorem Ext.push {p : Addr} {u : HO} {o : HObj} (hp : H p = none) : Ext K own ρ h H (ρ ++ [p]) (h.push o) (upd H p u) :=
  ⟨List.prefix_append _ _, sqT_upd (by rw [hp]; exact True.intro), fun a o' _ e _ => by rw [OHeap.get_push, if_neg (Nat.ne_of_lt (OHeap.get_lt e))]; exact e⟩
theorem Ext.set {a : Nat} {p : Addr} {u : HO} {o₀ o : HObj} (e : h.get a = some o₀) (f : fixd o₀ = false) (w : Wr (H p)) : Ext K own ρ h H ρ (h.set a o) (upd H p u) :=
  ⟨List.prefix_refl _, sqT_upd w, fun b o' _ e' f' => by
    rw [OHeap.get_set (OHeap.get_lt e), if_neg]
    · exact e'
    · intro z
      subst z
      rw [e] at e'
      cases e'
      rw [f] at f'
      cases f'⟩
theorem VR.ext {x : PV} {v : V} (e : Ext K own ρ h H ρ' h' H') (r : VR T K ρ H x v) : VR T K ρ' H' x v := r.mono e.pre e.tup
theorem VRs.ext {x : List PV} {v : List V} (e : Ext K own ρ h H ρ' h' H') (r : VRs T K ρ H x v) : VRs T K ρ' H' x v := r.mono e.pre e.tup
/-- H alone grows by an object that the own heap does not name (a tuple) -/
theorem HR.laid (R : HR T K tl own ρ h H) {p : Addr} {u : HO} (hp : H p = none) : HR T K tl own ρ h (upd H p u) := by
  have w : Wr (H p) := by rw [hp]; exact True.intro
  refine ⟨R.len, fun b p' e => ?_, R.nd, tabs_upd w R.tab⟩
  obtain ⟨o', e1, r⟩ := R.obj b p' e
  refine ⟨o', e1, r.mono (List.prefix_refl _) (sqT_upd w) (frz_upd w) (ext_upd w) fun n => ?_⟩
  obtain ⟨v, e3⟩ := r.tracked n
  exact upd_ne (ne_of_none e3 hp)
theorem Ext.laid {p : Addr} {u : HO} (hp : H p = none) : Ext K own ρ h H ρ h (upd H p u) := ⟨List.prefix_refl _, sqT_upd (by rw [hp]; exact True.intro), fun _ _ _ e _ => e⟩
end
end Py

/-! Frames, runs, what an expression's reading is. -/
set_option Elab.async false
set_option linter.all false
set_option maxRecDepth 100000
noncomputable section
namespace Py
open PySem PySem.Spec PyProof.Rows L2
section
variable (T : Tb) (X : Cx) (tl : List (Addr × Str)) (own : List Nat)
/-- values, caught exceptions among them -/
def VT (ρ : List Addr) (h : OHeap) (H : Hp) (x : PV) (v : V) : Prop :=
  VR T X.K ρ H x v ∨ X.calm = false ∧ ∃ a e oe p c fs, x = .exv a ∧ v = .ref e ∧ (e, oe) ∈ X.pn ∧ h.get a = some (.exc c fs) ∧ ρ[a]? = some p ∧ oe.cls = .ref (cAdr T X.K c) ∧ oe.dict = some p ∧ ∃ us, oe.data = .fields us
def SlotR (ρ : List Addr) (h : OHeap) (H : Hp) (σ : L2.St) (j : Nat) (n : Str) : Option Slot → Prop
  | some (.v x) => ∃ v, σ[j]? = some (some v) ∧ VT T X ρ h H x v
  | some (.c a) => a ∈ own ∧ (X.env.kindOf n = some .cell ∨ X.env.kindOf n = some .free) ∧ ∃ c v, X.env.cells.lookup n = some c ∧ ρ[a]? = some c ∧ h.get a = some (.cell v) ∧ ∀ x, v = some x → ∃ y, σ[j]? = some (some y) ∧ VR T X.K ρ H x y
  | _ => True
/-- an own cell's content: a visible name's, or as it was at the entry -/
def CellK (ρ : List Addr) (h : OHeap) (H : Hp) (fr : Py.Frame) (σ : L2.St) (a : Nat) (c : Addr) (v : Option PV) : Prop :=
  (∃ (j : Nat) (n : Str), X.N[j]? = some n ∧ Vis X.env.scope n ∧ (X.env.kindOf n = some .cell ∨ X.env.kindOf n = some .free) ∧ X.env.cells.lookup n = some c ∧ fr[j]? = some (Slot.c a) ∧ ∀ x, v = some x → ∃ y, σ[j]? = some (some y) ∧ VR T X.K ρ H x y) ∨
  (X.H_0 c = none ∧ c ∉ X.fs ∧ c ∉ X.ex ∧ ∃ oc, X.s_0.heap.get? c = some oc ∧ ∀ x, v = some x → ∃ u y, oc.data = .cell (some u) ∧ RelV y u ∧ VR T X.K ρ H x y)
structure EnvR (ρ : List Addr) (h : OHeap) (H : Hp) (fr : Py.Frame) (σ : L2.St) : Prop where
  slot : ∀ j n, X.N[j]? = some n → Vis X.env.scope n → SlotR T X own ρ h H σ j n fr[j]?
  len : σ.length = X.N.length
  dif : ∀ a ∈ own, ∀ b ∈ own, ∀ c : Addr, ρ[a]? = some c → ρ[b]? = some c → a = b
  cel : ∀ a ∈ own, ∃ c v, ρ[a]? = some c ∧ X.base.get? c = none ∧ c ∉ frs X.stack ∧ h.get a = some (.cell v) ∧ CellK T X ρ h H fr σ a c v
/-- what is wanted of a computation's end -/
def Run {α : Type} (W : WX) (σ : L2.St) (r : R α) (post : α → List Addr → OHeap → Hp → Prop) (ρ : List Addr) (h : OHeap) (H : Hp) : Prop :=
  match r with
  | .ok a h' => ∀ ρ' H', Ext X.K [] ρ h H ρ' h' H' → HR T X.K tl own ρ' h' H' → post a ρ' h' H'
  | .ex e h' => ∀ ρ' H' p c fs, Ext X.K [] ρ h H ρ' h' H' → HR T X.K tl own ρ' h' H' → h'.get e = some (.exc c fs) → ρ'[e]? = some p → W (.ref (cAdr T X.K c)) (some p) σ H'
  | .no => False
def tE (W : WX) (fr : Py.Frame) (ev : OHeap → R PV) : TE := fun σ H Q =>
  ∃ ρ h, HR T X.K tl own ρ h H ∧ EnvR T X own ρ h H fr σ ∧ Run T X tl own W σ (ev h) (fun v ρ' h' H' => ∀ y, VT T X ρ' h' H' v y → Q y H') ρ h H
/-- the same of a test -/
def tB (W : WX) (fr : Py.Frame) (ev : OHeap → R PV) : TT := fun σ H Q =>
  ∃ ρ h, HR T X.K tl own ρ h H ∧ EnvR T X own ρ h H fr σ ∧ Run T X tl own W σ (ev h) (fun v ρ' h' H' => ∃ b, truth h' v = some b ∧ Q b H') ρ h H
/-- of arguments -/
def tAs (W : WX) (fr : Py.Frame) (ev : OHeap → R (List PV)) : TA := fun σ H Q =>
  ∃ ρ h, HR T X.K tl own ρ h H ∧ EnvR T X own ρ h H fr σ ∧ Run T X tl own W σ (ev h) (fun vs ρ' h' H' => ∀ ys, VRs T X.K ρ' H' vs ys → Q ys H') ρ h H
end
section
variable {T : Tb} {X : Cx} {tl : List (Addr × Str)} {own : List Nat} {W : WX} {σ : L2.St} {ρ ρ' : List Addr} {h h' : OHeap} {H H' : Hp} {fr : Py.Frame}
theorem VT.ext {own' : List Nat} {x : PV} {v : V} (e : Ext X.K own' ρ h H ρ' h' H') (n : ∀ a c fs, h.get a = some (.exc c fs) → a ∉ own') (r : VT T X ρ h H x v) : VT T X ρ' h' H' x v := by
  rcases r with r | ⟨hcm, a, e1, oe, p, c, fs, ex, ev, hp, hg, hr, hc, hd, hu⟩
  · exact .inl (r.ext e)
  · exact .inr ⟨hcm, a, e1, oe, p, c, fs, ex, ev, hp, e.fix a _ (n a c fs hg) hg rfl, pre_get e.pre hr, hc, hd, hu⟩
theorem VT.cl {x : PV} {v : V} (r : VT T X ρ h H x v) (c : clean x = true) : VR T X.K ρ H x v := by
  rcases r with r | ⟨_, a, _, _, _, _, _, ex, _⟩
  · exact r
  · rw [ex] at c; cases c
theorem CellK.ext {a : Nat} {c : Addr} {v : Option PV} (e : Ext X.K [] ρ h H ρ' h' H') (r : CellK T X ρ h H fr σ a c v) : CellK T X ρ' h' H' fr σ a c v := by
  rcases r with ⟨j, n, h1, h2, h3, h4, h5, h6⟩ | ⟨h1, h2, h3, oc, h4, h5⟩
  · exact .inl ⟨j, n, h1, h2, h3, h4, h5, fun x hx => let ⟨y, f1, f2⟩ := h6 x hx; ⟨y, f1, f2.ext e⟩⟩
  · exact .inr ⟨h1, h2, h3, oc, h4, fun x hx => let ⟨u, y, f1, f2, f3⟩ := h5 x hx; ⟨u, y, f1, f2, f3.ext e⟩⟩
theorem EnvR.ext (e : Ext X.K [] ρ h H ρ' h' H') (r : EnvR T X own ρ h H fr σ) : EnvR T X own ρ' h' H' fr σ := by
  refine ⟨fun j n h1 h2 => ?_, r.len, fun a ha b hb c e1 e2 => ?_, fun a ha => ?_⟩
  · have z := r.slot j n h1 h2
    cases q : fr[j]? with
    | none => exact True.intro
    | some sl =>
      rw [q] at z
      cases sl with
      | n => exact True.intro
      | v x =>
        obtain ⟨y, e1, e2⟩ := z
        exact ⟨y, e1, e2.ext e fun _ _ _ _ => by simp⟩
      | c a =>
        obtain ⟨ho, hk, c, v, e1, e2, e5, e6⟩ := z
        exact ⟨ho, hk, c, v, e1, pre_get e.pre e2, e.fix a _ (by simp) e5 rfl, fun x hx => let ⟨y, f1, f2⟩ := e6 x hx; ⟨y, f1, f2.ext e⟩⟩
  · have bk : ∀ {a : Nat} {c : Addr}, a ∈ own → ρ'[a]? = some c → ρ[a]? = some c := fun {a c} ha z => by
      obtain ⟨c', _, h1, _⟩ := r.cel a ha
      have := pre_get e.pre h1
      rw [z] at this
      cases this
      exact h1
    exact r.dif a ha b hb c (bk ha e1) (bk hb e2)
  · obtain ⟨c, v, h1, h2, h3, h4, h5⟩ := r.cel a ha
    exact ⟨c, v, pre_get e.pre h1, h2, h3, e.fix a _ (by simp) h4 rfl, h5.ext e⟩
section
variable {α β : Type} {r : R α} {post post' : α → List Addr → OHeap → Hp → Prop}
theorem Run.imp (q : Run T X tl own W σ r post ρ h H) (f : ∀ a ρ' h' H', Ext X.K [] ρ h H ρ' h' H' → HR T X.K tl own ρ' h' H' → post a ρ' h' H' → post' a ρ' h' H') : Run T X tl own W σ r post' ρ h H := by
  cases r with
  | ok a h' => exact fun ρ' H' e R => f a ρ' h' H' e R (q ρ' H' e R)
  | ex e h' => exact q
  | no => exact q
theorem Run.at (e : Ext X.K [] ρ h H ρ' h' H') (q : Run T X tl own W σ r post ρ h H) : Run T X tl own W σ r post ρ' h' H' := by
  cases r with
  | ok a h' => exact fun ρ' H' e' R => q ρ' H' (e.tr e') R
  | ex e0 h' => exact fun ρ' H' p c fs e' R => q ρ' H' p c fs (e.tr e') R
  | no => exact q
theorem Run.bind {k : α → OHeap → R β} {post : β → List Addr → OHeap → Hp → Prop} (q : Run T X tl own W σ (r.bind k) post ρ h H) : Run T X tl own W σ r (fun a ρ1 h1 H1 => Run T X tl own W σ (k a h1) post ρ1 h1 H1) ρ h H := by
  cases r with
  | ok a h' => exact fun ρ1 H1 e R => Run.at e q
  | ex e h' => exact q
  | no => exact q
/-- at an end that is told -/
theorem Run.fin {a : α} (q : Run T X tl own W σ (.ok a h') post ρ h H) (e : Ext X.K [] ρ h H ρ' h' H') (R : HR T X.K tl own ρ' h' H') : post a ρ' h' H' := q ρ' H' e R
end
theorem PE.weak {e : PySem.Expr} {t t' : TE} (p : PE X e t) (h : ∀ σ H Q, t' σ H Q → t σ H Q) : PE X e t' := ⟨fun pins s σ H Q I q => p.run pins s σ H Q I (h σ H Q q)⟩
theorem PT.weak {e : PySem.Expr} {t t' : TT} (p : PT X e t) (h : ∀ σ H Q, t' σ H Q → t σ H Q) : PT X e t' := ⟨fun pins s σ H Q I q => p.run pins s σ H Q I (h σ H Q q)⟩
theorem PA.weak {es : List PySem.Expr} {t t' : TA} (p : PA X es t) (h : ∀ σ H Q, t' σ H Q → t σ H Q) : PA X es t' := ⟨fun pos pins s σ H Q I q => p.run pos pins s σ H Q I (h σ H Q q)⟩

/-! ### leaves -/
section
variable {pos : Pos}
theorem se_non {j} : PE X (.Constant .none j pos) (tE T X tl own W fr fun h => .ok .non h) :=
  PE.weak pe_non fun σ H Q ⟨ρ, h, R, Ev, q⟩ => q.fin Ext.refl R _ (.inl rfl)
theorem se_bl {b j} : PE X (.Constant (.bool b) j pos) (tE T X tl own W fr fun h => .ok (.bl b) h) :=
  PE.weak pe_bl fun σ H Q ⟨ρ, h, R, Ev, q⟩ => q.fin Ext.refl R _ (.inl rfl)
theorem se_int {i j} : PE X (.Constant (.int i) j pos) (tE T X tl own W fr fun h => .ok (.int i) h) :=
  PE.weak pe_int fun σ H Q ⟨ρ, h, R, Ev, q⟩ => q.fin Ext.refl R _ (.inl rfl)
theorem se_str {x j} : PE X (.Constant (.str x) j pos) (tE T X tl own W fr fun h => .ok (.str x) h) :=
  PE.weak pe_str fun σ H Q ⟨ρ, h, R, Ev, q⟩ => q.fin Ext.refl R _ (.inl rfl)
theorem se_loc {i : Nat} {x : Str} (hN : X.N[i]? = some x) (hv : Vis X.env.scope x) (hd : (x == ("__debug__" : Str)) = false) (hcd : (x == ("__classdict__" : Str)) = false) :
    PE X (.Name x pos) (tE T X tl own W fr fun h => match fget fr i h with | some v => .ok v h | none => .no) := by
  refine PE.weak (pe_var hN hv hd hcd) fun σ H Q ⟨ρ, h, R, Ev, q⟩ => ?_
  have z := Ev.slot i x hN hv
  unfold fget at q
  cases e : fr[i]? with
  | none => rw [e] at q; exact q.elim
  | some sl =>
    rw [e] at z q
    cases sl with
    | n => exact q.elim
    | v y =>
      obtain ⟨v, e1, e2⟩ := z
      exact ⟨v, e1, q.fin Ext.refl R v e2⟩
    | c a =>
      obtain ⟨_, _, c, v, _, _, e5, e6⟩ := z
      dsimp only at q
      rw [e5] at q
      cases v with
      | none => exact q.elim
      | some y =>
        obtain ⟨v, f1, f2⟩ := e6 y rfl
        exact ⟨v, f1, q.fin Ext.refl R v (.inl f2)⟩
end
end
end Py

/-! Operators: what the machine does with the values is what the evaluator says. -/
set_option Elab.async false
set_option linter.all false
set_option maxRecDepth 100000
noncomputable section
namespace Py
open PySem PySem.Spec PyProof.Rows L2

section
variable {T : Tb} {X : Cx} {tl : List (Addr × Str)} {own : List Nat} {W : WX} {σ : L2.St} {ρ ρ' : List Addr} {h h' : OHeap} {H H' : Hp} {fr : Py.Frame} {K : PySem.W.Frag}

theorem fits_le {n : Nat} (e : fits n = true) : n ≤ sizeLine := by rw [sizeLine_eq]; exact Nat.le_of_ble_eq_true e
theorem small_ok {i : Int} (e : small i = true) : -(2 ^ 64) < i ∧ i < 2 ^ 64 := by
  have : i.natAbs < 18446744073709551616 := Nat.le_of_ble_eq_true e
  omega

/-! values, taken apart -/
theorem VT.int {i : Int} {v : V} (r : VT T X ρ h H (.int i) v) : v = .int i := r.cl rfl
theorem VT.str {i : Str} {v : V} (r : VT T X ρ h H (.str i) v) : v = .str i := r.cl rfl
theorem VT.bl {i : Bool} {v : V} (r : VT T X ρ h H (.bl i) v) : v = .bl i := r.cl rfl
theorem VT.non {v : V} (r : VT T X ρ h H .non v) : v = .non := r.cl rfl
theorem VT.tup {xs : List PV} {v : V} (r : VT T X ρ h H (.tup xs) v) : ∃ p vs, v = .ref p ∧ SqT X.K H p vs ∧ VRs T X.K ρ H xs vs := r.cl rfl
theorem VT.obj {a : Nat} {v : V} (r : VT T X ρ h H (.obj a) v) : ∃ p, v = .ref p ∧ ρ[a]? = some p := r.cl rfl
theorem HR.lst (R : HR T K tl own ρ h H) {a : Nat} {p : Addr} {xs : List PV} (e : h.get a = some (.lst xs)) (q : ρ[a]? = some p) : ∃ vs, H p = some (.lst vs) ∧ VRs T K ρ H xs vs := R.atp e q
theorem HR.dct (R : HR T K tl own ρ h H) {a : Nat} {p : Addr} {xs : List (PV × PV)} (e : h.get a = some (.dct xs false)) (q : ρ[a]? = some p) : ∃ es, H p = some (.dK es) ∧ DR T K ρ H xs es := let ⟨es, r, e⟩ := R.atp e q; ⟨es, e, r⟩

/-! a new list, a new tuple -/
theorem at_new {p : Addr} (R : HR T K tl own ρ h H) : (ρ ++ [p])[h.n]? = some p := by
  rw [← R.len]; simp
theorem new_lst {post : PV → List Addr → OHeap → Hp → Prop} {xs : List PV} {vs : List V} {p : Addr} (q : Run T X tl own W σ (.ok (.obj h.n) (h.push (.lst xs))) post ρ h H) (R : HR T X.K tl own ρ h H) (r : VRs T X.K ρ H xs vs) (hp : H p = none) :
    ∃ ρ' h' , post (.obj h.n) ρ' h' (upd H p (.lst vs)) ∧ VT T X ρ' h' (upd H p (.lst vs)) (.obj h.n) (.ref p) := by
  have x : Ext X.K [] ρ h H (ρ ++ [p]) (h.push (.lst xs)) (upd H p (.lst vs)) := Ext.push hp
  exact ⟨ρ ++ [p], h.push (.lst xs), q.fin x (R.push hp (fun z => z) ⟨vs, upd_same, r.ext x⟩), .inl ⟨p, rfl, at_new R⟩⟩
theorem new_tup {post : PV → List Addr → OHeap → Hp → Prop} {xs : List PV} {vs : List V} {p : Addr} (q : Run T X tl own W σ (.ok (.tup xs) h) post ρ h H) (R : HR T X.K tl own ρ h H) (r : VRs T X.K ρ H xs vs) (hp : H p = none) :
    post (.tup xs) ρ h (upd H p (.tup vs)) ∧ VT T X ρ h (upd H p (.tup vs)) (.tup xs) (.ref p) := by
  have x : Ext X.K [] ρ h H ρ h (upd H p (.tup vs)) := Ext.laid hp
  exact ⟨q.fin x (R.laid hp), .inl ⟨p, vs, rfl, SqT.of upd_same, r.ext x⟩⟩
end

section
variable (T : Tb) (X : Cx) (tl : List (Addr × Str)) (own : List Nat)
/-- a two-place operation's reading -/
def rO (f : PV → PV → OHeap → R PV) : R2 := fun x y H Q => ∃ a b ρ h W σ, HR T X.K tl own ρ h H ∧ VT T X ρ h H a x ∧ VT T X ρ h H b y ∧ Run T X tl own W σ (f a b h) (fun v ρ' h' H' => ∀ z, VT T X ρ' h' H' v z → Q z H') ρ h H
def rU1 (f : PV → OHeap → R PV) : V → Hp → VK → Prop := fun x H Q => ∃ a ρ h W σ, HR T X.K tl own ρ h H ∧ VT T X ρ h H a x ∧ Run T X tl own W σ (f a h) (fun v ρ' h' H' => ∀ z, VT T X ρ' h' H' v z → Q z H') ρ h H
/-- a call of a built-in's reading -/
def rC (f : List PV → OHeap → R PV) : List V → Hp → VK → Prop := fun xs H Q => ∃ as ρ h W σ, HR T X.K tl own ρ h H ∧ VRs T X.K ρ H as xs ∧ Run T X tl own W σ (f as h) (fun v ρ' h' H' => ∀ z, VT T X ρ' h' H' v z → Q z H') ρ h H
def rM (f : PV → List PV → OHeap → R PV) : V → List V → Hp → VK → Prop := fun x xs H Q => ∃ a as ρ h W σ, HR T X.K tl own ρ h H ∧ VT T X ρ h H a x ∧ VRs T X.K ρ H as xs ∧ Run T X tl own W σ (f a as h) (fun v ρ' h' H' => ∀ z, VT T X ρ' h' H' v z → Q z H') ρ h H
end

section
variable {T : Tb} {X : Cx} {tl : List (Addr × Str)} {own : List Nat} {W : WX} {σ : L2.St} {ρ ρ' : List Addr} {h h' : OHeap} {H H' : Hp} {fr : Py.Frame}
theorem OpR.weak {f : Value → Value → Sem Value} {r r' : R2} (o : OpR X f r) (w : ∀ x y H Q, r' x y H Q → r x y H Q) : OpR X f r' := fun pins s σ H x y v u Q I rx ry q => o pins s σ H x y v u Q I rx ry (w _ _ _ _ q)

theorem add_ok : OpR X (binaryOp .Add) (rO T X tl own addV) := by
  refine OpR.weak (OpR.or op_add (OpR.or op_add_str (OpR.or op_catT op_cat))) fun x y H Q => ?_
  rintro ⟨a, b, ρ, h, W, σ, R, ra, rb, q⟩
  unfold addV at q
  split at q
  · exact .inl ⟨_, _, ra.int, rb.int, q.fin Ext.refl R _ (.inl rfl)⟩
  · split at q
    · exact .inr (.inl ⟨_, _, ra.str, rb.str, fits_le ‹_›, q.fin Ext.refl R _ (.inl rfl)⟩)
    · exact q.elim
  · split at q
    · rename_i xs ys hc
      obtain ⟨p, vs, rfl, s1, r1⟩ := ra.tup
      obtain ⟨p2, ws, rfl, s2, r2⟩ := rb.tup
      rw [Bool.and_eq_true, Bool.and_eq_true] at hc
      have n1 : vs ≠ [] := fun z => by
        have := r1.length
        rw [z] at this
        rw [List.eq_nil_of_length_eq_zero this] at hc
        exact absurd hc.1.1 (by decide)
      have n2 : ws ≠ [] := fun z => by
        have := r2.length
        rw [z] at this
        rw [List.eq_nil_of_length_eq_zero this] at hc
        exact absurd hc.1.2 (by decide)
      refine .inr (.inr (.inl ⟨p, p2, vs, ws, rfl, rfl, s1, s2, n1, by rw [← r1.length, ← r2.length]; exact fits_le hc.2, fun z => absurd z n2, fun _ l hl => ?_⟩))
      obtain ⟨q1, q2⟩ := new_tup q R (r1.app r2) hl
      exact q1 _ q2
    · exact q.elim
  · split at q
    · rename_i a b xs ys e1 e2
      split at q
      · rename_i hc
        obtain ⟨p, rfl, ep⟩ := ra.obj
        obtain ⟨p2, rfl, ep2⟩ := rb.obj
        obtain ⟨vs, h1, r1⟩ := R.lst e1 ep
        obtain ⟨ws, h2, r2⟩ := R.lst e2 ep2
        refine .inr (.inr (.inr ⟨p, p2, vs, ws, rfl, rfl, h1, h2, by rw [← r1.length, ← r2.length]; exact fits_le hc, fun l hl => ?_⟩))
        obtain ⟨_, _, q1, q2⟩ := new_lst q R (r1.app r2) hl
        exact q1 _ q2
      · exact q.elim
    · exact q.elim
  · exact q.elim
theorem rep1 {v : V} : ∀ k : Nat, (List.replicate k [v]).flatten = List.replicate k v
  | 0 => rfl
  | k + 1 => by rw [List.replicate_succ, List.flatten_cons, rep1 k]; rfl
theorem mul_ok : OpR X (binaryOp .Mult) (rO T X tl own mulV) := by
  refine OpR.weak (OpR.or op_mul op_rep) fun x y H Q => ?_
  rintro ⟨a, b, ρ, h, W, σ, R, ra, rb, q⟩
  unfold mulV at q
  split at q
  · split at q
    · rename_i i j _ hc
      refine .inl ⟨i, j, ra.int, rb.int, ?_, q.fin Ext.refl R _ (.inl rfl)⟩
      rw [Bool.or_eq_true] at hc
      exact hc.imp small_ok small_ok
    · exact q.elim
  · split at q
    · split at q
      · rename_i a k _ x e _ hc
        obtain ⟨p, rfl, ep⟩ := ra.obj
        obtain ⟨vs, h1, v, ys, rfl, r1, rfl⟩ := R.lst e ep
        have hk := fits_le hc
        have hk' : k ≤ 16777216 := Nat.le_of_ble_eq_true hc
        refine .inr ⟨p, (k : Int), [v], rfl, rb.int, h1, by omega, by omega, by simpa using hk, fun l hl => ?_⟩
        rw [Int.toNat_natCast, rep1]
        obtain ⟨_, _, q1, q2⟩ := new_lst q R (VRs.rep r1 k) hl
        exact q1 _ q2
      · exact q.elim
    · exact q.elim
  · exact q.elim
theorem sub_ok : OpR X (binaryOp .Sub) (rO T X tl own (binop .sub)) := by
  refine OpR.weak op_sub fun x y H Q => ?_
  rintro ⟨a, b, ρ, h, W, σ, R, ra, rb, q⟩
  unfold binop at q
  dsimp only at q
  split at q
  · exact ⟨_, _, ra.int, rb.int, q.fin Ext.refl R _ (.inl rfl)⟩
  · exact q.elim
theorem fdiv_ok : OpR X (binaryOp .FloorDiv) (rO T X tl own (binop .fdiv)) := by
  refine OpR.weak op_fdiv fun x y H Q => ?_
  rintro ⟨a, b, ρ, h, W, σ, R, ra, rb, q⟩
  unfold binop at q
  dsimp only at q
  split at q
  · split at q
    · rename_i hc
      rw [Bool.and_eq_true] at hc
      exact ⟨_, _, ra.int, rb.int, ⟨of_decide_eq_true hc.1, of_decide_eq_true hc.2⟩, q.fin Ext.refl R _ (.inl rfl)⟩
    · exact q.elim
  · exact q.elim
theorem mod_ok : OpR X (binaryOp .Mod) (rO T X tl own (binop .mod)) := by
  refine OpR.weak op_mod fun x y H Q => ?_
  rintro ⟨a, b, ρ, h, W, σ, R, ra, rb, q⟩
  unfold binop at q
  dsimp only at q
  split at q
  · split at q
    · rename_i hc
      exact ⟨_, _, ra.int, rb.int, of_decide_eq_true hc, q.fin Ext.refl R _ (.inl rfl)⟩
    · exact q.elim
  · exact q.elim
theorem pow_ok : OpR X (binaryOp .Pow) (rO T X tl own (binop .pow)) := by
  refine OpR.weak op_pow fun x y H Q => ?_
  rintro ⟨a, b, ρ, h, W, σ, R, ra, rb, q⟩
  unfold binop at q
  dsimp only at q
  split at q
  · split at q
    · rename_i i k _ hc
      rw [Bool.and_eq_true] at hc
      have h1 : k ≤ 1000 := Nat.le_of_ble_eq_true hc.1
      have h2 : i.natAbs < 18446744073709551616 := Nat.le_of_ble_eq_true hc.2
      refine ⟨i, (k : Int), ra.int, rb.int, ⟨by omega, by omega, by omega⟩, ?_⟩
      show Q (.int (i ^ (k : Int).toNat)) H
      rw [Int.toNat_natCast]
      exact q.fin Ext.refl R _ (.inl rfl)
    · exact q.elim
  · exact q.elim

def opOf : Bop → Operator
  | .add => .Add | .sub => .Sub | .mul => .Mult | .fdiv => .FloorDiv | .mod => .Mod | .pow => .Pow
theorem bin_ok : ∀ op : Bop, OpR X (binaryOp (opOf op)) (rO T X tl own (binop op))
  | .add => add_ok
  | .sub => sub_ok
  | .mul => mul_ok
  | .fdiv => fdiv_ok
  | .mod => mod_ok
  | .pow => pow_ok

/-! ### data -/
section
variable {K : PySem.W.Frag}
theorem tk_cons {xs : List PV} {x : PV} {vs : List V} (r : VRs T K ρ H (x :: xs) vs) : ∃ y ys, vs = y :: ys ∧ VR T K ρ H x y ∧ VRs T K ρ H xs ys := r
mutual
theorem data_ok (R : HR T K tl own ρ h H) : ∀ (f : Nat) (x : PV) (d : PyData) (v : V), toData false h f x = some d → VR T K ρ H x v → Dp K H v d
  | 0, _, _, _, e, _ => nomatch e
  | f + 1, x, d, v, e, r => by
    unfold toData at e
    split at e
    · cases e; cases (show v = .non from r); exact .non
    · cases e; cases (show v = .bl _ from r); exact .bl _
    · cases e; cases (show v = .int _ from r); exact .int _
    · cases e; cases (show v = .str _ from r); exact .str _
    · split at e
      · rename_i ds e2
        cases e
        obtain ⟨p, vs, rfl, s1, r1⟩ := r
        exact .tup s1 (datas_ok R f _ ds vs e2 r1)
      · cases e
    · obtain ⟨p, rfl, ep⟩ := r
      split at e
      · rename_i e1
        obtain ⟨vs, h1, r1⟩ := R.lst e1 ep
        split at e
        · rename_i ds e2
          cases e
          exact .lst (SqL.of h1) (datas_ok R f _ ds vs e2 r1)
        · cases e
      · cases e
      · cases e
    · cases e
theorem datas_ok (R : HR T K tl own ρ h H) : ∀ (f : Nat) (xs : List PV) (ds : List PyData) (vs : List V), toDatas h f xs = some ds → VRs T K ρ H xs vs → DpAll K H vs ds
  | 0, _, _, _, e, _ => nomatch e
  | f + 1, xs, ds, vs, e, r => by
    unfold toDatas at e
    split at e
    · cases e; cases (show vs = [] from r); exact .nil
    · obtain ⟨y, ys, rfl, r1, r2⟩ := tk_cons r
      split at e
      · rename_i d e1
        split at e
        · rename_i ds e2
          cases e
          exact .cons (data_ok R f _ d y e1 r1) (datas_ok R f _ ds ys e2 r2)
        · cases e
      · cases e
end
theorem toData_clean {dk : Bool} : ∀ {f : Nat} {x : PV} {d : PyData}, toData dk h f x = some d → clean x = true
  | 0, _, _, e => nomatch e
  | f + 1, x, d, e => by
    cases x <;> first | rfl | (unfold toData at e; cases e)
end
/-- x == y, of data -/
theorem eq_dat {neg : Bool} {ρ : List Addr} (R : HR T X.K tl own ρ h H) {a b : PV} {x y : V} (ra : VT T X ρ h H a x) (rb : VT T X ρ h H b y) {c : Bool} (e : dataEq h a b = some c) :
    (∃ i j, x = .int i ∧ y = .int j ∧ c = decide (i = j)) ∨ (∃ i j, x = .str i ∧ y = .str j ∧ c = decide (i = j)) ∨ ∃ d d', Dp X.K H x d ∧ Dp X.K H y d' ∧ SeqAt.shaped d = true ∧ SeqAt.shaped d' = true ∧ c = PyData.eqv d d' := by
  unfold dataEq at e
  split at e
  · cases e; exact .inl ⟨_, _, ra.int, rb.int, rfl⟩
  · cases e; exact .inr (.inl ⟨_, _, ra.str, rb.str, rfl⟩)
  · split at e
    · rename_i d d' e1 e2
      split at e
      · rename_i hc
        cases e
        rw [Bool.and_eq_true] at hc
        exact .inr (.inr ⟨d, d', data_ok R _ _ _ _ e1 (ra.cl (toData_clean e1)), data_ok R _ _ _ _ e2 (rb.cl (toData_clean e2)), hc.1, hc.2, rfl⟩)
      · cases e
    · cases e
theorem eq_ok {P : Prog} (hu : X.A.units + 64 < cLine) : OpR X (compareOp .Eq) (rO T X tl own (cmpop P .eq)) := by
  refine OpR.weak (OpR.or op_eq (op_eqD hu)) fun x y H Q => ?_
  rintro ⟨a, b, ρ, h, W, σ, R, ra, rb, q⟩
  unfold cmpop at q
  dsimp only at q
  split at q
  · rename_i c e
    have fin := q.fin Ext.refl R _ (.inl rfl)
    rcases eq_dat (neg := false) R ra rb e with ⟨i, j, rfl, rfl, rfl⟩ | ⟨i, j, rfl, rfl, rfl⟩ | ⟨d, d', h1, h2, s1, s2, rfl⟩
    · refine .inl ⟨rfl, ?_⟩
      rw [show decide (V.int i = V.int j) = decide (i = j) from decide_eq_decide.mpr ⟨fun z => by cases z; rfl, fun z => by rw [z]⟩]
      exact fin
    · refine .inl ⟨rfl, ?_⟩
      rw [show decide (V.str i = V.str j) = decide (i = j) from decide_eq_decide.mpr ⟨fun z => by cases z; rfl, fun z => by rw [z]⟩]
      exact fin
    · exact .inr ⟨d, d', h1, h2, s1, s2, fin⟩
  · exact q.elim
theorem ne_ok {P : Prog} (hu : X.A.units + 64 < cLine) : OpR X (compareOp .NotEq) (rO T X tl own (cmpop P .ne)) := by
  refine OpR.weak (OpR.or op_ne (op_neD hu)) fun x y H Q => ?_
  rintro ⟨a, b, ρ, h, W, σ, R, ra, rb, q⟩
  unfold cmpop at q
  dsimp only at q
  split at q
  · rename_i c e
    have fin := q.fin Ext.refl R _ (.inl rfl)
    rcases eq_dat (neg := false) R ra rb e with ⟨i, j, rfl, rfl, rfl⟩ | ⟨i, j, rfl, rfl, rfl⟩ | ⟨d, d', h1, h2, s1, s2, rfl⟩
    · refine .inl ⟨rfl, ?_⟩
      rw [show decide (V.int i = V.int j) = decide (i = j) from decide_eq_decide.mpr ⟨fun z => by cases z; rfl, fun z => by rw [z]⟩]
      exact fin
    · refine .inl ⟨rfl, ?_⟩
      rw [show decide (V.str i = V.str j) = decide (i = j) from decide_eq_decide.mpr ⟨fun z => by cases z; rfl, fun z => by rw [z]⟩]
      exact fin
    · exact .inr ⟨d, d', h1, h2, s1, s2, fin⟩
  · exact q.elim
theorem cmpI {P : Prog} {op : Cop} {mop : CmpOp} {p : Int → Int → Bool} (o : OpR X (compareOp mop) (rI0 fun i j => .bl (p i j))) (he : ∀ x y h, cmpop P op x y h = match x, y with
    | .int i, .int j => .ok (.bl (p i j)) h
    | _, _ => .no) : OpR X (compareOp mop) (rO T X tl own (cmpop P op)) := by
  refine OpR.weak o fun x y H Q => ?_
  rintro ⟨a, b, ρ, h, W, σ, R, ra, rb, q⟩
  rw [he] at q
  split at q
  · exact ⟨_, _, ra.int, rb.int, q.fin Ext.refl R _ (.inl rfl)⟩
  · exact q.elim
theorem isN_ok {P : Prog} : OpR X (compareOp .Is) (rO T X tl own (cmpop P .is)) := by
  refine OpR.weak op_isN fun x y H Q => ?_
  rintro ⟨a, b, ρ, h, W, σ, R, ra, rb, q⟩
  unfold cmpop at q
  dsimp only at q
  split at q
  · refine ⟨rb.non, ?_⟩
    have fin := q.fin Ext.refl R _ (.inl rfl)
    split at fin
    · rw [ra.non, decide_eq_true rfl]; exact fin
    · rename_i hn
      have : x ≠ .non := fun z => by
        subst z
        rcases ra with ra | ⟨_, _, _, _, _, _, _, _, _, _, _, _, _⟩
        · cases a with
          | non => exact hn rfl
          | bl b => cases (show V.non = .bl b from ra)
          | int b => cases (show V.non = .int b from ra)
          | str b => cases (show V.non = .str b from ra)
          | obj b => obtain ⟨_, z, _⟩ := ra; cases z
          | glo b => obtain ⟨_, z, _⟩ := ra; cases z
          | tup b => obtain ⟨_, _, z, _⟩ := ra; cases z
          | exv b => exact ra
        · contradiction
      rw [decide_eq_false this]; exact fin
  · exact q.elim
theorem notN_ok {P : Prog} : OpR X (compareOp .IsNot) (rO T X tl own (cmpop P .isn)) := by
  refine OpR.weak op_notN fun x y H Q => ?_
  rintro ⟨a, b, ρ, h, W, σ, R, ra, rb, q⟩
  unfold cmpop at q
  dsimp only at q
  split at q
  · refine ⟨rb.non, ?_⟩
    have fin := q.fin Ext.refl R _ (.inl rfl)
    split at fin
    · rw [ra.non, decide_eq_true rfl]; exact fin
    · rename_i hn
      have : x ≠ .non := fun z => by
        subst z
        rcases ra with ra | ⟨_, _, _, _, _, _, _, _, _, _, _, _, _⟩
        · cases a with
          | non => exact hn rfl
          | bl b => cases (show V.non = .bl b from ra)
          | int b => cases (show V.non = .int b from ra)
          | str b => cases (show V.non = .str b from ra)
          | obj b => obtain ⟨_, z, _⟩ := ra; cases z
          | glo b => obtain ⟨_, z, _⟩ := ra; cases z
          | tup b => obtain ⟨_, _, z, _⟩ := ra; cases z
          | exv b => exact ra
        · contradiction
      rw [decide_eq_false this]; exact fin
  · exact q.elim
/-! ### in -/
theorem flat_ok {K : PySem.W.Frag} : ∀ {a : PV} {x : V}, flatP a = true → VR T K ρ H a x → flatV x = true ∧ ∀ {b : PV} {y : V}, flatP b = true → VR T K ρ H b y → eqP b a = eqV y x := by
  intro a x f r
  cases a <;> first | exact Bool.noConfusion (show false = true from f) | skip
  all_goals
    first
      | cases (show x = .non from r)
      | cases (show x = .bl _ from r)
      | cases (show x = .int _ from r)
      | cases (show x = .str _ from r)
    refine ⟨rfl, fun {b y} g s => ?_⟩
    cases b <;> first | exact Bool.noConfusion (show false = true from g) | skip
    all_goals
      first
        | cases (show y = .non from s)
        | cases (show y = .bl _ from s)
        | cases (show y = .int _ from s)
        | cases (show y = .str _ from s)
      rfl
theorem flats_ok {K : PySem.W.Frag} {a : PV} {x : V} (f : flatP a = true) (r : VR T K ρ H a x) : ∀ {as : List PV} {xs : List V}, as.all flatP = true → VRs T K ρ H as xs → xs.all flatV = true ∧ (as.any fun z => eqP z a) = inV x xs
  | [], xs, _, q => by cases (show xs = [] from q); exact ⟨rfl, rfl⟩
  | b :: as, xs, g, q => by
    obtain ⟨y, ys, rfl, q1, q2⟩ := q
    rw [List.all_cons, Bool.and_eq_true] at g
    obtain ⟨z1, z2⟩ := flats_ok f r g.2 q2
    refine ⟨by rw [List.all_cons, z1, (flat_ok g.1 q1).1]; rfl, ?_⟩
    unfold inV at z2 ⊢
    rw [List.any_cons, List.any_cons, z2, (flat_ok f r).2 g.1 q1]
theorem elems_ok {K : PySem.W.Frag} (R : HR T K tl own ρ h H) {a : PV} {x : V} {l : List PV} (e : elems h a = some l) (r : VR T K ρ H a x) : ∃ p vs, x = .ref p ∧ (SqL K H p vs ∨ SqT K H p vs) ∧ VRs T K ρ H l vs := by
  unfold elems at e
  split at e
  · cases e
    obtain ⟨p, vs, rfl, s, r⟩ := r
    exact ⟨p, vs, rfl, .inr s, r⟩
  · obtain ⟨p, rfl, ep⟩ := r
    split at e
    · cases e
      rename_i e1
      obtain ⟨vs, h1, r1⟩ := R.lst e1 ep
      exact ⟨p, vs, rfl, .inl (SqL.of h1), r1⟩
    · cases e
      rename_i e1
      obtain ⟨vs, r1, ⟨o, h1⟩ | h1⟩ := R.atp e1 ep
      · exact ⟨p, vs, rfl, .inl (.inl (.inr ⟨o, h1⟩)), r1⟩
      · refine ⟨p, vs, rfl, .inl ?_, r1⟩
        rcases h1 with (h1 | ⟨_, h1⟩) | h1
        · cases h1
        · cases h1
        · exact .inr h1
    · cases e
  · cases e
theorem elems_clean {a : PV} {l : List PV} (e : elems h a = some l) : clean a = true := by
  cases a <;> first | rfl | (unfold elems at e; cases e)
theorem flat_clean {a : PV} (e : flatP a = true) : clean a = true := by
  cases a <;> first | rfl | exact Bool.noConfusion (show false = true from e)
theorem isIn_ok {P : Prog} (R : HR T X.K tl own ρ h H) {a b : PV} {x y : V} (ra : VT T X ρ h H a x) (rb : VT T X ρ h H b y) {c : Bool} (e : isIn P h a b = some c) :
    (∃ s z, x = .str ⟨#[s]⟩ ∧ y = .str z ∧ c = decide (s ∈ z.cps.toList)) ∨ ∃ p xs, y = .ref p ∧ (SqL X.K H p xs ∨ SqT X.K H p xs) ∧ flatV x = true ∧ xs.all flatV = true ∧ c = inV x xs := by
  unfold isIn at e
  split at e
  · split at e
    · split at e
      · rename_i s2 _ s1 _ k hk
        cases e
        refine .inl ⟨k, s2, ?_, rb.str, rfl⟩
        rw [ra.str]
        obtain ⟨⟨l⟩⟩ := s1
        cases (show l = [k] from hk)
        rfl
      · cases e
    · cases e
  · split at e
    · rename_i l el
      split at e
      · rename_i hc
        cases e
        rw [Bool.and_eq_true] at hc
        obtain ⟨p, vs, rfl, s, r⟩ := elems_ok R el (rb.cl (elems_clean el))
        obtain ⟨z1, z2⟩ := flats_ok hc.1 (ra.cl (flat_clean hc.1)) hc.2 r
        exact .inr ⟨p, vs, rfl, s, (flat_ok hc.1 (ra.cl (flat_clean hc.1))).1, z1, z2⟩
      · cases e
    · cases e
theorem in_ok {P : Prog} : OpR X (compareOp .In) (rO T X tl own (cmpop P .in_)) := by
  refine OpR.weak (OpR.or op_in_sign op_in_seq) fun x y H Q => ?_
  rintro ⟨a, b, ρ, h, W, σ, R, ra, rb, q⟩
  unfold cmpop at q
  dsimp only at q
  split at q
  · rename_i c e
    have fin := q.fin Ext.refl R _ (.inl rfl)
    rcases isIn_ok R ra rb e with ⟨s, z, rfl, rfl, rfl⟩ | ⟨p, xs, rfl, h1, h2, h3, rfl⟩
    · exact .inl ⟨s, z, rfl, rfl, fin⟩
    · exact .inr ⟨p, xs, rfl, h1, h2, h3, fin⟩
  · exact q.elim
theorem nin_ok {P : Prog} : OpR X (compareOp .NotIn) (rO T X tl own (cmpop P .nin)) := by
  refine OpR.weak (OpR.or op_notIn_sign op_notIn_seq) fun x y H Q => ?_
  rintro ⟨a, b, ρ, h, W, σ, R, ra, rb, q⟩
  unfold cmpop at q
  dsimp only at q
  split at q
  · rename_i c e
    have fin := q.fin Ext.refl R _ (.inl rfl)
    rcases isIn_ok R ra rb e with ⟨s, z, rfl, rfl, rfl⟩ | ⟨p, xs, rfl, h1, h2, h3, rfl⟩
    · exact .inl ⟨s, z, rfl, rfl, fin⟩
    · exact .inr ⟨p, xs, rfl, h1, h2, h3, fin⟩
  · exact q.elim
def copOf : Cop → CmpOp
  | .eq => .Eq | .ne => .NotEq | .lt => .Lt | .le => .LtE | .gt => .Gt | .ge => .GtE | .is => .Is | .isn => .IsNot | .in_ => .In | .nin => .NotIn
theorem cmp_ok {P : Prog} (hu : X.A.units + 64 < cLine) : ∀ op : Cop, OpR X (compareOp (copOf op)) (rO T X tl own (cmpop P op))
  | .eq => eq_ok hu
  | .ne => ne_ok hu
  | .lt => cmpI op_lt fun _ _ _ => rfl
  | .le => cmpI op_le fun _ _ _ => rfl
  | .gt => cmpI op_gt fun _ _ _ => rfl
  | .ge => cmpI op_ge fun _ _ _ => rfl
  | .is => isN_ok
  | .isn => notN_ok
  | .in_ => in_ok
  | .nin => nin_ok

/-! ### a[i], a[lo:hi] -/
theorem idx_ixN {i : Int} {n j : Nat} (e : idx i n = some j) : ixN n i = some j := by
  unfold idx at e
  unfold ixN
  split at e
  · split at e
    · rename_i k _ hb
      have e := Option.some.inj e
      subst e
      have : k < n := Nat.le_of_ble_eq_true hb
      rw [if_pos (show (0 : Int) ≤ Int.ofNat k from Int.natCast_nonneg k), if_pos (show Int.ofNat k < (n : Int) from Int.ofNat_lt.mpr this)]
      rfl
    · cases e
  · split at e
    · rename_i k _ hb
      cases e
      have : k < n := Nat.le_of_ble_eq_true hb
      rw [if_neg (by omega), if_pos (by omega)]
      congr 1
      omega
    · cases e
theorem ix_ok : IxR X (rO T X tl own subscr) := by
  intro value slice pins s σ0 H x y v u Q I rx ry ⟨a, b, ρ, h, W, σ, R, ra, rb, q⟩ hs
  unfold subscr at q
  split at q
  · rename_i i
    split at q
    · rename_i _ l el
      split at q
      · rename_i _ n en
        split at q
        · rename_i _ w ew
          obtain ⟨p, vs, rfl, s, r⟩ := elems_ok R el (ra.cl (elems_clean el))
          obtain ⟨z, ez, rz⟩ := r.get ew
          have at_ : atI vs i = some z := by
            unfold atI
            rw [← r.length, idx_ixN en]
            exact ez
          have fin := q.fin Ext.refl R z (.inl rz)
          refine (ix_list.or ix_tup) value slice pins _ σ0 H _ y v u Q I rx ry ?_ hs
          rcases s with s | s
          · exact .inl ⟨p, vs, i, z, rfl, rb.int, s, at_, fin⟩
          · exact .inr ⟨p, vs, i, z, rfl, rb.int, s, at_, fin⟩
        · exact q.elim
      · exact q.elim
    · exact q.elim
  · exact q.elim
end
end Py

/-! Expressions: what each form computes. -/
set_option Elab.async false
set_option linter.all false
set_option maxRecDepth 100000
noncomputable section
namespace Py
open PySem PySem.Spec PyProof.Rows L2

section
variable {T : Tb} {X : Cx} {tl : List (Addr × Str)} {own : List Nat} {W : WX} {σ : L2.St} {ρ ρ' : List Addr} {h h' : OHeap} {H H' : Hp} {fr : Py.Frame} {K : PySem.W.Frag}
variable {a b c : PySem.Expr} {ea eb ec : OHeap → R PV} {pos : Pos}
/-- what a step of a chain bears: the value, later -/
theorem VT.later {x : PV} {v : V} (e : Ext X.K [] ρ h H ρ' h' H') (r : VT T X ρ h H x v) : VT T X ρ' h' H' x v := r.ext e fun _ _ _ _ => by simp
theorem Run.two {β : Type} {k : PV → OHeap → R β} {post : β → List Addr → OHeap → Hp → Prop} (R : HR T X.K tl own ρ h H) (Ev : EnvR T X own ρ h H fr σ) (q : Run T X tl own W σ ((ea h).bind k) post ρ h H)
    {Q : VK} (f : ∀ x ρ' h' H' v, Ext X.K [] ρ h H ρ' h' H' → HR T X.K tl own ρ' h' H' → EnvR T X own ρ' h' H' fr σ → VT T X ρ' h' H' x v → Run T X tl own W σ (k x h') post ρ' h' H' → Q v H') : tE T X tl own W fr ea σ H Q :=
  ⟨ρ, h, R, Ev, q.bind.imp fun x ρ' h' H' e R' q' v rv => f x ρ' h' H' v e R' (Ev.ext e) rv q'⟩
theorem Run.twoB {β : Type} {k : PV → OHeap → R β} {post : β → List Addr → OHeap → Hp → Prop} (R : HR T X.K tl own ρ h H) (Ev : EnvR T X own ρ h H fr σ) (q : Run T X tl own W σ ((ea h).bind k) post ρ h H)
    {Q : Bool → Hp → Prop} (f : ∀ x ρ' h' H', Ext X.K [] ρ h H ρ' h' H' → HR T X.K tl own ρ' h' H' → EnvR T X own ρ' h' H' fr σ → Run T X tl own W σ (k x h') post ρ' h' H' → ∃ b, truth h' x = some b ∧ Q b H') : tB T X tl own W fr ea σ H Q :=
  ⟨ρ, h, R, Ev, q.bind.imp fun x ρ' h' H' e R' q' => f x ρ' h' H' e R' (Ev.ext e) q'⟩
theorem Run.twoA {β : Type} {es : OHeap → R (List PV)} {k : List PV → OHeap → R β} {post : β → List Addr → OHeap → Hp → Prop} (R : HR T X.K tl own ρ h H) (Ev : EnvR T X own ρ h H fr σ) (q : Run T X tl own W σ ((es h).bind k) post ρ h H)
    {Q : List V → Hp → Prop} (f : ∀ x ρ' h' H' v, Ext X.K [] ρ h H ρ' h' H' → HR T X.K tl own ρ' h' H' → EnvR T X own ρ' h' H' fr σ → VRs T X.K ρ' H' x v → Run T X tl own W σ (k x h') post ρ' h' H' → Q v H') : tAs T X tl own W fr es σ H Q :=
  ⟨ρ, h, R, Ev, q.bind.imp fun x ρ' h' H' e R' q' v rv => f x ρ' h' H' v e R' (Ev.ext e) rv q'⟩

theorem op2 {f : PV → PV → OHeap → R PV} {Q : VK} (q : tE T X tl own W fr (fun h => (ea h).bind fun x h => (eb h).bind fun y h => f x y h) σ H Q) : tOp (rO T X tl own f) (tE T X tl own W fr ea) (tE T X tl own W fr eb) σ H Q := by
  obtain ⟨ρ, h, R, Ev, q⟩ := q
  exact q.two R Ev fun x ρ1 h1 H1 v e1 R1 Ev1 rv q1 => q1.two R1 Ev1 fun y ρ2 h2 H2 w e2 R2 Ev2 rw_ q2 => ⟨x, y, ρ2, h2, W, σ, R2, rv.later e2, rw_, q2⟩
theorem se_bin {op : Bop} (ha : PE X a (tE T X tl own W fr ea)) (hb : PE X b (tE T X tl own W fr eb)) : PE X (.BinOp a (opOf op) b pos) (tE T X tl own W fr fun h => (ea h).bind fun x h => (eb h).bind fun y h => binop op x y h) :=
  PE.weak (pe_op (bin_ok op) ha hb) fun σ H Q q => op2 q
theorem se_cmp {P : Prog} {op : Cop} (hu : X.A.units + 64 < cLine) (ha : PE X a (tE T X tl own W fr ea)) (hb : PE X b (tE T X tl own W fr eb)) (hm : behindInMarks (copOf op) b = false) :
    PE X (.Compare a [copOf op] [b] pos) (tE T X tl own W fr fun h => (ea h).bind fun x h => (eb h).bind fun y h => cmpop P op x y h) :=
  PE.weak (pe_cmpR (cmp_ok hu op) ha hb hm) fun σ H Q q => op2 q
theorem cmp_bl {P : Prog} {op : Cop} {x y : PV} {h h' : OHeap} {v : PV} (e : cmpop P op x y h = .ok v h') : ∃ c, v = .bl c := by
  unfold cmpop at e
  cases op <;> dsimp only at e <;> (repeat' split at e) <;> cases e <;> exact ⟨_, rfl⟩
theorem cmp_ok' {P : Prog} {op : Cop} {x y : PV} {h : OHeap} {e : Nat} {h' : OHeap} : cmpop P op x y h ≠ .ex e h' := fun z => by
  unfold cmpop at z
  cases op <;> dsimp only at z <;> (repeat' split at z) <;> cases z
theorem cmp_h {P : Prog} {op : Cop} {x y : PV} {h h' : OHeap} {v : PV} (e : cmpop P op x y h = .ok v h') : h' = h := by
  unfold cmpop at e
  cases op <;> dsimp only at e <;> (repeat' split at e) <;> cases e <;> rfl
theorem Run.cmp {P : Prog} {op : Cop} {x y : PV} {post : PV → List Addr → OHeap → Hp → Prop} (q : Run T X tl own W σ (cmpop P op x y h) post ρ h H) : ∃ c, cmpop P op x y h = .ok (.bl c) h := by
  cases e : cmpop P op x y h with
  | ok v h' => obtain ⟨c, rfl⟩ := cmp_bl e; obtain rfl := cmp_h e; exact ⟨c, rfl⟩
  | ex _ _ => exact absurd e cmp_ok'
  | no => rw [e] at q; exact q.elim
theorem st_cmp {P : Prog} {op : Cop} (hu : X.A.units + 64 < cLine) (ha : PE X a (tE T X tl own W fr ea)) (hb : PE X b (tE T X tl own W fr eb)) (hm : behindInMarks (copOf op) b = false) :
    PT X (.Compare a [copOf op] [b] pos) (tB T X tl own W fr fun h => (ea h).bind fun x h => (eb h).bind fun y h => cmpop P op x y h) := by
  refine PT.weak (pt_cmpR (cmp_ok (T := T) (tl := tl) (own := own) (P := P) hu op) ha hb hm) fun σ H Q q => ?_
  obtain ⟨ρ, h, R, Ev, q⟩ := q
  refine q.two R Ev fun x ρ1 h1 H1 v e1 R1 Ev1 rv q1 => q1.two R1 Ev1 fun y ρ2 h2 H2 w e2 R2 Ev2 rw_ q2 => ⟨x, y, ρ2, h2, W, σ, R2, rv.later e2, rw_, ?_⟩
  obtain ⟨c, hc⟩ := q2.cmp
  rw [hc] at q2 ⊢
  intro ρ3 H3 e3 R3 z rz
  obtain ⟨b, hb1, hb2⟩ := q2 ρ3 H3 e3 R3
  cases hb1
  exact ⟨c, rz.bl, hb2⟩

/-! ### and, or, not, if .. else -/
def andE (ea eb : OHeap → R PV) : OHeap → R PV := fun h => (ea h).bind fun x h => (match x with
    | .bl true => eb h
    | .bl false => .ok (.bl false) h
    | _ => .no)
def orE (ea eb : OHeap → R PV) : OHeap → R PV := fun h => (ea h).bind fun x h => (match x with
    | .bl false => eb h
    | .bl true => .ok (.bl true) h
    | _ => .no)
def notE (ea : OHeap → R PV) : OHeap → R PV := fun h => (ea h).bind fun x h => (match x with
    | .bl b => .ok (.bl (!b)) h
    | _ => .no)
def iteE (ec ea eb : OHeap → R PV) : OHeap → R PV := fun h => (ec h).bind fun x h => (match truth h x with
    | some true => ea h
    | some false => eb h
    | none => .no)
theorem se_and {rest : List PySem.Expr} (ha : PE X a (tE T X tl own W fr ea)) (hb : PE X (.BoolOp .And (b :: rest) pos) (tE T X tl own W fr eb)) : PE X (.BoolOp .And (a :: b :: rest) pos) (tE T X tl own W fr (andE ea eb)) := by
  refine PE.weak (pe_and ha hb) fun σ H Q q => ?_
  obtain ⟨ρ, h, R, Ev, q⟩ := q
  refine q.two R Ev fun x ρ1 h1 H1 v e1 R1 Ev1 rv q1 => ?_
  split at q1
  · exact ⟨true, rv.bl, by rw [if_pos rfl]; exact ⟨ρ1, h1, R1, Ev1, q1⟩⟩
  · exact ⟨false, rv.bl, by rw [if_neg Bool.false_ne_true]; exact q1.fin Ext.refl R1 _ (.inl rfl)⟩
  · exact q1.elim
theorem se_or {rest : List PySem.Expr} (ha : PE X a (tE T X tl own W fr ea)) (hb : PE X (.BoolOp .Or (b :: rest) pos) (tE T X tl own W fr eb)) : PE X (.BoolOp .Or (a :: b :: rest) pos) (tE T X tl own W fr (orE ea eb)) := by
  refine PE.weak (pe_or ha hb) fun σ H Q q => ?_
  obtain ⟨ρ, h, R, Ev, q⟩ := q
  refine q.two R Ev fun x ρ1 h1 H1 v e1 R1 Ev1 rv q1 => ?_
  split at q1
  · exact ⟨false, rv.bl, by rw [if_neg Bool.false_ne_true]; exact ⟨ρ1, h1, R1, Ev1, q1⟩⟩
  · exact ⟨true, rv.bl, by rw [if_pos rfl]; exact q1.fin Ext.refl R1 _ (.inl rfl)⟩
  · exact q1.elim
theorem se_not (ha : PE X a (tE T X tl own W fr ea)) : PE X (.UnaryOp .Not a pos) (tE T X tl own W fr (notE ea)) := by
  refine PE.weak (pe_not ha) fun σ H Q q => ?_
  obtain ⟨ρ, h, R, Ev, q⟩ := q
  refine q.two R Ev fun x ρ1 h1 H1 v e1 R1 Ev1 rv q1 => ?_
  split at q1
  · exact ⟨_, rv.bl, q1.fin Ext.refl R1 _ (.inl rfl)⟩
  · exact q1.elim
theorem st_and {rest : List PySem.Expr} (ha : PT X a (tB T X tl own W fr ea)) (hb : PW X (.BoolOp .And (b :: rest) pos) (tB T X tl own W fr eb)) : PW X (.BoolOp .And (a :: b :: rest) pos) (tB T X tl own W fr (andE ea eb)) := by
  have z := pw_and (pos := pos) ha hb
  refine ⟨fun whole pins s σ H Q I q => z.run whole pins s σ H Q I ?_⟩
  obtain ⟨ρ, h, R, Ev, q⟩ := q
  refine q.twoB R Ev fun x ρ1 h1 H1 e1 R1 Ev1 q1 => ?_
  split at q1
  · exact ⟨true, rfl, by rw [if_pos rfl]; exact ⟨ρ1, h1, R1, Ev1, q1⟩⟩
  · refine ⟨false, rfl, ?_⟩
    rw [if_neg Bool.false_ne_true]
    obtain ⟨_, e, q2⟩ := q1.fin Ext.refl R1
    cases e
    exact q2
  · exact q1.elim
theorem st_or {rest : List PySem.Expr} (ha : PT X a (tB T X tl own W fr ea)) (hb : PW X (.BoolOp .Or (b :: rest) pos) (tB T X tl own W fr eb)) : PW X (.BoolOp .Or (a :: b :: rest) pos) (tB T X tl own W fr (orE ea eb)) := by
  have z := pw_or (pos := pos) ha hb
  refine ⟨fun whole pins s σ H Q I q => z.run whole pins s σ H Q I ?_⟩
  obtain ⟨ρ, h, R, Ev, q⟩ := q
  refine q.twoB R Ev fun x ρ1 h1 H1 e1 R1 Ev1 q1 => ?_
  split at q1
  · exact ⟨false, rfl, by rw [if_neg Bool.false_ne_true]; exact ⟨ρ1, h1, R1, Ev1, q1⟩⟩
  · refine ⟨true, rfl, ?_⟩
    rw [if_pos rfl]
    obtain ⟨_, e, q2⟩ := q1.fin Ext.refl R1
    cases e
    exact q2
  · exact q1.elim
theorem st_not (ha : PT X a (tB T X tl own W fr ea)) : PT X (.UnaryOp .Not a pos) (tB T X tl own W fr (notE ea)) := by
  refine PT.weak (pt_not ha) fun σ H Q q => ?_
  obtain ⟨ρ, h, R, Ev, q⟩ := q
  refine q.twoB R Ev fun x ρ1 h1 H1 e1 R1 Ev1 q1 => ?_
  split at q1
  · obtain ⟨_, e, q2⟩ := q1.fin Ext.refl R1
    cases e
    exact ⟨_, rfl, q2⟩
  · exact q1.elim
theorem se_ite (hc : PT X c (tB T X tl own W fr ec)) (ha : PE X a (tE T X tl own W fr ea)) (hb : PE X b (tE T X tl own W fr eb)) : PE X (.IfExp c a b pos) (tE T X tl own W fr (iteE ec ea eb)) := by
  refine PE.weak (pe_ifExp hc ha hb) fun σ H Q q => ?_
  obtain ⟨ρ, h, R, Ev, q⟩ := q
  refine q.twoB R Ev fun x ρ1 h1 H1 e1 R1 Ev1 q1 => ?_
  split at q1
  · exact ⟨true, ‹_›, by rw [if_pos rfl]; exact ⟨ρ1, h1, R1, Ev1, q1⟩⟩
  · exact ⟨false, ‹_›, by rw [if_neg Bool.false_ne_true]; exact ⟨ρ1, h1, R1, Ev1, q1⟩⟩
  · exact q1.elim
/-- any other test: the value's truth -/
theorem isEmpty_len {xs : List PV} {vs : List V} (r : VRs T K ρ H xs vs) : xs.isEmpty = vs.isEmpty := by
  have := r.length
  cases xs <;> cases vs <;> first | rfl | (simp at this)
theorem truth_ok (R : HR T X.K tl own ρ h H) {x : PV} {v : V} (r : VT T X ρ h H x v) {b : Bool} (e : truth h x = some b) : TruV X.K v H b := by
  unfold truth at e
  split at e
  · cases e; rw [r.non]; exact rfl
  · cases e; rw [r.bl]; exact rfl
  · cases e; rw [r.int]; exact rfl
  · rename_i y
    split at e
    · rename_i hf
      cases e
      rw [r.str]
      refine ⟨fits_le hf, ?_⟩
      by_cases h0 : y.length = 0
      · rw [h0]; rfl
      · have h1 : (y.length : Int) ≠ 0 := by omega
        rw [bne_iff_ne.mpr h0, bne_iff_ne.mpr h1]
    · cases e
  · cases e
    obtain ⟨p, vs, rfl, s, r⟩ := r.tup
    exact .inr (.inl ⟨vs, s, by rw [isEmpty_len r]⟩)
  · obtain ⟨p, rfl, ep⟩ := r.obj
    split at e
    · rename_i e1
      cases e
      obtain ⟨vs, h1, r1⟩ := R.lst e1 ep
      exact .inl ⟨vs, SqL.of h1, by rw [isEmpty_len r1]⟩
    · rename_i kvs e1
      cases e
      obtain ⟨es, h1, r1⟩ := R.dct e1 ep
      refine .inr (.inr ⟨es, h1, ?_⟩)
      cases kvs with
      | nil => rw [show es = [] from r1]; rfl
      | cons q r => obtain ⟨_, _, _, rfl, _⟩ := r1; rfl
    · cases e
  · cases e
theorem st_val (ha : PE X a (tE T X tl own W fr ea)) (he : ∀ whole, isTrue a X.env whole = (do let v ← whole; standAt a.pos; holding [v] (truthy v))) : PT X a (tB T X tl own W fr ea) := by
  refine PT.weak (pt_truth ha he) fun σ H Q q => ?_
  obtain ⟨ρ, h, R, Ev, q⟩ := q
  refine ⟨ρ, h, R, Ev, q.imp fun x ρ1 h1 H1 e1 R1 ⟨b, hb, q1⟩ v rv => ⟨b, truth_ok R1 rv hb, q1⟩⟩

/-! ### chains -/
def chainE (P : Prog) (o1 o2 : Cop) (ea eb ec : OHeap → R PV) : OHeap → R PV := fun h => (ea h).bind fun x h => (eb h).bind fun y h => (cmpop P o1 x y h).bind fun t h => (match t with
    | .bl true => (ec h).bind fun z h => cmpop P o2 y z h
    | .bl false => .ok (.bl false) h
    | _ => .no)
theorem se_chain {P : Prog} {o1 o2 : Cop} (hu : X.A.units + 64 < cLine) (ha : PE X a (tE T X tl own W fr ea)) (hb : PE X b (tE T X tl own W fr eb)) (hc : PE X c (tE T X tl own W fr ec))
    (hm : lastMarks [copOf o1, copOf o2] [b, c] = false) :
    PE X (.Compare a [copOf o1, copOf o2] [b, c] pos) (tE T X tl own W fr (chainE P o1 o2 ea eb ec)) := by
  refine PE.weak (pe_chain (cmp_ok (T := T) (tl := tl) (own := own) (P := P) hu o1) (cmp_ok (T := T) (tl := tl) (own := own) (P := P) hu o2) ha hb hc hm) fun σ H Q q => ?_
  obtain ⟨ρ, h, R, Ev, q⟩ := q
  refine q.two R Ev fun x ρ1 h1 H1 v e1 R1 Ev1 rv q1 => q1.two R1 Ev1 fun y ρ2 h2 H2 w e2 R2 Ev2 rw_ q2 => ⟨x, y, ρ2, h2, W, σ, R2, rv.later e2, rw_, ?_⟩
  obtain ⟨k, hk⟩ := q2.bind.cmp
  rw [hk] at q2 ⊢
  intro ρ3 H3 e3 R3 z rz
  have q3 : Run T X tl own W σ _ _ ρ3 h2 H3 := Run.at e3 q2
  have Ev3 := Ev2.ext e3
  refine ⟨k, rz.bl, ?_⟩
  cases k with
  | true =>
    rw [if_pos rfl]
    have q3 : Run T X tl own W σ ((ec h2).bind fun z h => cmpop P o2 y z h) (fun v ρ' h' H' => ∀ z, VT T X ρ' h' H' v z → Q z H') ρ3 h2 H3 := q3
    exact q3.two R3 Ev3 fun u ρ4 h4 H4 v4 e4 R4 Ev4 r4 q4 => ⟨y, u, ρ4, h4, W, σ, R4, (rw_.later e3).later e4, r4, q4⟩
  | false =>
    rw [if_neg Bool.false_ne_true]
    have q3 : Run T X tl own W σ (.ok (.bl false) h2) (fun v ρ' h' H' => ∀ z, VT T X ρ' h' H' v z → Q z H') ρ3 h2 H3 := q3
    exact q3.fin Ext.refl R3 _ (.inl rfl)
theorem st_chain {P : Prog} {o1 o2 : Cop} (hu : X.A.units + 64 < cLine) (ha : PE X a (tE T X tl own W fr ea)) (hb : PE X b (tE T X tl own W fr eb)) (hc : PE X c (tE T X tl own W fr ec))
    (hm : lastMarks [copOf o1, copOf o2] [b, c] = false) :
    PT X (.Compare a [copOf o1, copOf o2] [b, c] pos) (tB T X tl own W fr (chainE P o1 o2 ea eb ec)) := by
  refine PT.weak (pt_chain (cmp_ok (T := T) (tl := tl) (own := own) (P := P) hu o1) (cmp_ok (T := T) (tl := tl) (own := own) (P := P) hu o2) ha hb hc hm) fun σ H Q q => ?_
  obtain ⟨ρ, h, R, Ev, q⟩ := q
  refine q.two R Ev fun x ρ1 h1 H1 v e1 R1 Ev1 rv q1 => q1.two R1 Ev1 fun y ρ2 h2 H2 w e2 R2 Ev2 rw_ q2 => ⟨x, y, ρ2, h2, W, σ, R2, rv.later e2, rw_, ?_⟩
  obtain ⟨k, hk⟩ := q2.bind.cmp
  rw [hk] at q2 ⊢
  intro ρ3 H3 e3 R3 z rz
  have q3 : Run T X tl own W σ _ _ ρ3 h2 H3 := Run.at e3 q2
  have Ev3 := Ev2.ext e3
  refine ⟨k, rz.bl, ?_⟩
  cases k with
  | true =>
    rw [if_pos rfl]
    have q3 : Run T X tl own W σ ((ec h2).bind fun z h => cmpop P o2 y z h) (fun v ρ' h' H' => ∃ b, truth h' v = some b ∧ Q b H') ρ3 h2 H3 := q3
    refine q3.two R3 Ev3 fun u ρ4 h4 H4 v4 e4 R4 Ev4 r4 q4 => ⟨y, u, ρ4, h4, W, σ, R4, (rw_.later e3).later e4, r4, ?_⟩
    obtain ⟨c, hc⟩ := q4.cmp
    rw [hc] at q4 ⊢
    intro ρ5 H5 e5 R5 z5 rz5
    obtain ⟨b, hb1, hb2⟩ := q4 ρ5 H5 e5 R5
    cases hb1
    exact ⟨c, rz5.bl, hb2⟩
  | false =>
    rw [if_neg Bool.false_ne_true]
    have q3 : Run T X tl own W σ (.ok (.bl false) h2) (fun v ρ' h' H' => ∃ b, truth h' v = some b ∧ Q b H') ρ3 h2 H3 := q3
    obtain ⟨b, hb1, hb2⟩ := q3.fin Ext.refl R3
    cases hb1
    exact ⟨false, rfl, hb2⟩
end
end Py

/-! Arguments, displays, subscripts, built-in functions and methods. -/
set_option Elab.async false
set_option linter.all false
set_option maxRecDepth 100000
noncomputable section
namespace Py
open PySem PySem.Spec PyProof.Rows L2

/-! ### the text's forms -/
def noStar : PySem.Expr → Bool
  | .Starred _ _ => false
  | _ => true
theorem star_cons {e : PySem.Expr} {es : List PySem.Expr} {env : Env} (h : noStar e = true) : starEach (e :: es) env = (false, eval e env) :: starEach es env := by
  cases e <;> first | rfl | exact Bool.noConfusion (show false = true from h)
theorem star_plain {env : Env} {pos : Pos} : ∀ {es : List PySem.Expr}, es.all noStar = true → (backTo pos (starEach es env)).any (·.1) = false
  | [], _ => rfl
  | e :: es, h => by
    rw [List.all_cons, Bool.and_eq_true] at h
    rw [star_cons h.1]
    show (false || (backTo pos (starEach es env)).any (·.1)) = false
    rw [star_plain h.2]
    rfl
theorem star_all {env : Env} {pos : Pos} : ∀ {es : List PySem.Expr}, es.all noStar = true → (backTo pos (starEach es env)).all (fun x => !x.1) = true
  | [], _ => rfl
  | e :: es, h => by
    rw [List.all_cons, Bool.and_eq_true] at h
    rw [star_cons h.1]
    show (!false && (backTo pos (starEach es env)).all (fun x => !x.1)) = true
    rw [star_all h.2]
    rfl
def plainIxB : PySem.Expr → Bool
  | .Slice _ _ _ _ => false
  | _ => true
theorem plainIx_of {e : PySem.Expr} (h : plainIxB e = true) : PlainIx e := by
  intro o i
  cases e <;> first | rfl | exact Bool.noConfusion (show false = true from h)
/-- a test that is its value's truth -/
def plainT : PySem.Expr → Bool
  | .UnaryOp .Not _ _ => false
  | .BoolOp _ _ _ => false
  | .IfExp _ _ _ _ => false
  | .Compare _ _ _ _ => false
  | _ => true
theorem plainT_of {e : PySem.Expr} {env : Env} (h : plainT e = true) : ∀ whole, isTrue e env whole = (do let v ← whole; standAt e.pos; holding [v] (truthy v)) := by
  intro whole
  cases e <;> first | rfl | exact Bool.noConfusion (show false = true from h) | skip
  rename_i op x pos
  cases op <;> first | rfl | exact Bool.noConfusion (show false = true from h)
def plainBase : PySem.Expr → Bool
  | .Call (.Name x _) [] [] _ => x != ("super" : Str)
  | _ => true
theorem plainBase_of {e : PySem.Expr} {f : Str} {env : Env} (h : plainBase e = true) : attributeBase e f env (eval e env) = eval e env := by
  unfold attributeBase
  split
  · have h : (_ != ("super" : Str)) = true := h
    rw [h]
    rfl
  · rfl

section
variable {T : Tb} {X : Cx} {tl : List (Addr × Str)} {own : List Nat} {W : WX} {σ : L2.St} {ρ ρ' : List Addr} {h h' : OHeap} {H H' : Hp} {fr : Py.Frame} {K : PySem.W.Frag}
variable {a b c : PySem.Expr} {ea eb ec : OHeap → R PV} {pos : Pos} {es : List PySem.Expr} {eas : OHeap → R (List PV)}
def nilE : OHeap → R (List PV) := fun h => .ok [] h
def consE (ea : OHeap → R PV) (eas : OHeap → R (List PV)) : OHeap → R (List PV) := fun h => (ea h).bind fun x h => (match clean x with
    | true => (eas h).bind fun xs h => .ok (x :: xs) h
    | false => .no)
theorem sa_nil : PA X [] (tAs T X tl own W fr nilE) := PA.weak pa_nil fun σ H Q ⟨ρ, h, R, Ev, q⟩ => q.fin Ext.refl R [] rfl
theorem tcons {Q : List V → Hp → Prop} (q : tAs T X tl own W fr (consE ea eas) σ H Q) : tCons (tE T X tl own W fr ea) (tAs T X tl own W fr eas) σ H Q := by
  obtain ⟨ρ, h, R, Ev, q⟩ := q
  refine Run.two R Ev q fun x ρ1 h1 H1 v e1 R1 Ev1 rv q1 => ?_
  split at q1
  · rename_i hc
    exact q1.twoA R1 Ev1 fun xs ρ2 h2 H2 vs e2 R2 Ev2 rvs q2 => q2.fin Ext.refl R2 _ (VRs.cons ((rv.cl hc).ext e2) rvs)
  · exact q1.elim
theorem sa_cons (hs : noStar a = true) (ha : PE X a (tE T X tl own W fr ea)) (hr : PA X es (tAs T X tl own W fr eas)) : PA X (a :: es) (tAs T X tl own W fr (consE ea eas)) :=
  PA.weak (pa_cons ha hr (star_cons hs)) fun σ H Q q => tcons q
/-! displays -/
def tupE (eas : OHeap → R (List PV)) : OHeap → R PV := fun h => (eas h).bind fun xs h => (match fits xs.length with
    | true => .ok (.tup xs) h
    | false => .no)
def lstE (eas : OHeap → R (List PV)) : OHeap → R PV := fun h => (eas h).bind fun xs h => (match fits xs.length with
    | true => .ok (.obj h.n) (h.push (.lst xs))
    | false => .no)
theorem se_tup {x1} (ha : PA X es (tAs T X tl own W fr eas)) : PE X (.Tuple es x1 pos) (tE T X tl own W fr (tupE eas)) := by
  refine PE.weak (pe_tup ha) fun σ H Q ⟨ρ, h, R, Ev, q⟩ => ?_
  refine q.twoA R Ev fun xs ρ1 h1 H1 vs e1 R1 Ev1 rv q1 => ?_
  split at q1
  · rename_i hf
    refine ⟨by rw [← rv.length]; exact fits_le hf, fun p hp => ?_⟩
    obtain ⟨q2, q3⟩ := new_tup q1 R1 rv hp
    exact q2 _ q3
  · exact q1.elim
theorem se_lst (ha : PA X es (tAs T X tl own W fr eas)) : PE X (.List es pos) (tE T X tl own W fr (lstE eas)) := by
  refine PE.weak (pe_lst ha) fun σ H Q ⟨ρ, h, R, Ev, q⟩ => ?_
  refine q.twoA R Ev fun xs ρ1 h1 H1 vs e1 R1 Ev1 rv q1 => ?_
  split at q1
  · rename_i hf
    refine ⟨by rw [← rv.length]; exact fits_le hf, fun p hp => ?_⟩
    obtain ⟨_, _, q2, q3⟩ := new_lst q1 R1 rv hp
    exact q2 _ q3
  · exact q1.elim
/-! subscripts, slices -/
theorem se_sub (hx : plainIxB b = true) (ha : PE X a (tE T X tl own W fr ea)) (hb : PE X b (tE T X tl own W fr eb)) : PE X (.Subscript a b pos) (tE T X tl own W fr fun h => (ea h).bind fun x h => (eb h).bind fun y h => subscr x y h) :=
  PE.weak (pe_ix (ix_ok (T := T) (tl := tl) (own := own)) ha hb (plainIx_of hx)) fun σ H Q q => op2 q
theorem cut_ok {lo hi : Option Int} {xs : List PV} {vs : List V} (r : VRs T K ρ H xs vs) : VRs T K ρ H (slice xs lo hi) (cutV vs lo hi) := by
  unfold slice cutV
  rw [r.length]
  exact (r.drop _).take _
/-- a slice's part, left out or written -/
def tPa (T : Tb) (X : Cx) (tl : List (Addr × Str)) (own : List Nat) (W : WX) (fr : Py.Frame) (b : Bool) (e : OHeap → R PV) : TO := fun σ H Q => ∃ ρ h, HR T X.K tl own ρ h H ∧ EnvR T X own ρ h H fr σ ∧ Run T X tl own W σ (e h) (fun v ρ' h' H' => ∃ o, part b v = some o ∧ Q o H') ρ h H
theorem so_none : PO X none (tPa T X tl own W fr true fun h => .ok .non h) := by
  refine ⟨fun pins s σ H Q I q => po_none.run pins s σ H Q I ?_⟩
  obtain ⟨ρ, h, R, Ev, q⟩ := q
  obtain ⟨o, e, q⟩ := q.fin Ext.refl R
  cases e
  exact q
theorem so_some (ha : PE X a (tE T X tl own W fr ea)) : PO X (some a) (tPa T X tl own W fr false ea) := by
  refine ⟨fun pins s σ H Q I q => (po_some ha).run pins s σ H Q I ?_⟩
  obtain ⟨ρ, h, R, Ev, q⟩ := q
  refine ⟨ρ, h, R, Ev, q.imp fun v ρ1 h1 H1 e1 R1 q1 y ry => ?_⟩
  obtain ⟨o, e2, q⟩ := q1
  unfold part at e2
  split at e2
  · contradiction
  · cases e2
    exact ⟨_, ry.int, q⟩
  · cases e2
theorem sl_ok : SlR X (fun x lo hi H Q => ∃ a ρ h W σ, HR T X.K tl own ρ h H ∧ VT T X ρ h H a x ∧ Run T X tl own W σ (sliced a lo hi h) (fun v ρ' h' H' => ∀ z, VT T X ρ' h' H' v z → Q z H') ρ h H) := by
  intro pins s σ0 H x v vl vu lo hi sl Q I rx hs pl pu ⟨a, ρ, h, W, σ, R, ra, q⟩
  unfold sliced at q
  refine (sl_tup.or sl_list) pins s σ0 H x v vl vu lo hi sl Q I rx hs pl pu ?_
  split at q
  · rename_i xs
    split at q
    · exact q.elim
    · rename_i hb
      obtain ⟨p, vs, rfl, s1, r1⟩ := ra.tup
      refine .inl ⟨p, vs, rfl, s1, fun ⟨z1, z2⟩ => ?_, fun l hl => ?_⟩
      · rw [← r1.length] at z1 z2
        rw [z1, z2] at hb
        rw [Bool.and_eq_false_iff] at hb
        rcases hb with hb | hb <;> simp at hb
      · obtain ⟨q1, q2⟩ := new_tup q R (cut_ok (lo := lo) (hi := hi) r1) hl
        exact q1 _ q2
  · split at q
    · rename_i e1
      obtain ⟨p, rfl, ep⟩ := ra.obj
      obtain ⟨vs, h1, r1⟩ := R.lst e1 ep
      refine .inr ⟨p, vs, rfl, SqL.of h1, fun l hl => ?_⟩
      obtain ⟨_, _, q1, q2⟩ := new_lst q R (cut_ok (lo := lo) (hi := hi) r1) hl
      exact q1 _ q2
    · exact q.elim
  · exact q.elim
def sliE (bl bh : Bool) (ea el eu : OHeap → R PV) : OHeap → R PV := fun h => (ea h).bind fun x h => (el h).bind fun l h => (match part bl l with
    | some l => (eu h).bind fun u h => (match part bh u with
      | some u => sliced x l u h
      | none => .no)
    | none => .no)
theorem se_sli {lo hi : Option PySem.Expr} {bl bh : Bool} {el eu : OHeap → R PV} {p2 : Pos} (ha : PE X a (tE T X tl own W fr ea)) (hl : PO X lo (tPa T X tl own W fr bl el)) (hu : PO X hi (tPa T X tl own W fr bh eu)) :
    PE X (.Subscript a (.Slice lo hi none p2) pos) (tE T X tl own W fr (sliE bl bh ea el eu)) := by
  refine PE.weak (pe_slice (sl_ok (T := T) (tl := tl) (own := own)) ha hl hu) fun σ H Q ⟨ρ, h, R, Ev, q⟩ => ?_
  refine Run.two R Ev q fun x ρ1 h1 H1 v e1 R1 Ev1 rv q1 => ⟨ρ1, h1, R1, Ev1, q1.bind.imp fun l ρ2 h2 H2 e2 R2 q2 => ?_⟩
  split at q2
  · rename_i lo e
    refine ⟨lo, e, ρ2, h2, R2, Ev1.ext e2, q2.bind.imp fun u ρ3 h3 H3 e3 R3 q3 => ?_⟩
    split at q3
    · rename_i hi e'
      exact ⟨hi, e', x, ρ3, h3, W, σ, R3, (rv.later e2).later e3, q3⟩
    · exact q3.elim
  · exact q2.elim

/-! ### built-in functions -/
theorem CallR.weak {f : Value} {r r' : List V → Hp → VK → Prop} (o : CallR X f r) (w : ∀ xs H Q, r' xs H Q → r xs H Q) : CallR X f r' := fun pins s σ H xs us Q I rx q => o pins s σ H xs us Q I rx (w _ _ _ q)
theorem CallR.or {f : Value} {r r' : List V → Hp → VK → Prop} (o : CallR X f r) (o' : CallR X f r') : CallR X f (fun xs H Q => r xs H Q ∨ r' xs H Q) := fun pins s σ H xs us Q I rx q => q.elim (o pins s σ H xs us Q I rx) (o' pins s σ H xs us Q I rx)
theorem items_ok (R : HR T K tl own ρ h H) {a : PV} {x : V} {l : List PV} (e : items h a = some l) (r : VR T K ρ H a x) : ∃ p vs, x = .ref p ∧ H p = some (.lst vs) ∧ VRs T K ρ H l vs := by
  unfold items at e
  split at e
  · obtain ⟨p, rfl, ep⟩ := r
    split at e
    · cases e
      rename_i e1
      obtain ⟨vs, h1, r1⟩ := R.lst e1 ep
      exact ⟨p, vs, rfl, h1, r1⟩
    · cases e
  · cases e
theorem bools_ok : ∀ {l : List PV} {bs : List Bool} {vs : List V}, bools l = some bs → VRs T K ρ H l vs → vs = bs.map V.bl
  | [], bs, vs, e, r => by cases e; exact r
  | .bl b :: l, bs, vs, e, r => by
    obtain ⟨y, ys, rfl, r1, r2⟩ := r
    unfold bools at e
    split at e
    · rename_i bs' e'
      cases e
      cases (show y = .bl b from r1)
      rw [bools_ok e' r2]
      rfl
    · cases e
  | .non :: _, _, _, e, _ => nomatch e
  | .int _ :: _, _, _, e, _ => nomatch e
  | .str _ :: _, _, _, e, _ => nomatch e
  | .obj _ :: _, _, _, e, _ => nomatch e
  | .glo _ :: _, _, _, e, _ => nomatch e
  | .tup _ :: _, _, _, e, _ => nomatch e
  | .exv _ :: _, _, _, e, _ => nomatch e
theorem intsOf_ok : ∀ {l : List PV} {bs : List Int} {vs : List V}, intsOf l = some bs → VRs T K ρ H l vs → vs = bs.map V.int
  | [], bs, vs, e, r => by cases e; exact r
  | .int b :: l, bs, vs, e, r => by
    obtain ⟨y, ys, rfl, r1, r2⟩ := r
    unfold intsOf at e
    split at e
    · rename_i bs' e'
      cases e
      cases (show y = .int b from r1)
      rw [intsOf_ok e' r2]
      rfl
    · cases e
  | .non :: _, _, _, e, _ => nomatch e
  | .bl _ :: _, _, _, e, _ => nomatch e
  | .str _ :: _, _, _, e, _ => nomatch e
  | .obj _ :: _, _, _, e, _ => nomatch e
  | .glo _ :: _, _, _, e, _ => nomatch e
  | .tup _ :: _, _, _, e, _ => nomatch e
  | .exv _ :: _, _, _, e, _ => nomatch e
theorem one_of {x : PV} {xs : List V} (r : VRs T K ρ H [x] xs) : ∃ y, xs = [y] ∧ VR T K ρ H x y := by
  obtain ⟨y, ys, rfl, r1, r2⟩ := r
  cases (show ys = [] from r2)
  exact ⟨y, rfl, r1⟩
theorem two_of {x x' : PV} {xs : List V} (r : VRs T K ρ H [x, x'] xs) : ∃ y y', xs = [y, y'] ∧ VR T K ρ H x y ∧ VR T K ρ H x' y' := by
  obtain ⟨y, ys, rfl, r1, r2⟩ := r
  obtain ⟨y', rfl, r3⟩ := one_of r2
  exact ⟨y, y', rfl, r1, r3⟩

theorem DR.length : ∀ {kvs : List (PV × PV)} {es : List (Key × V)}, DR T K ρ H kvs es → kvs.length = es.length
  | [], es, r => by cases (show es = [] from r); rfl
  | (_, _) :: _, es, r => by
    obtain ⟨_, _, q, rfl, _, _, r⟩ := r
    rw [List.length_cons, List.length_cons, DR.length r]
theorem len_ok : CallR X (.builtin "len") (rC T X tl own (builtin .len)) := by
  refine CallR.weak (CallR.or call_len_seq (CallR.or call_len_str call_lenD)) fun xs H Q => ?_
  rintro ⟨as, ρ, h, W, σ, R, ra, q⟩
  unfold builtin at q
  dsimp only at q
  split at q
  · split at q
    · rename_i x _ n e
      obtain ⟨y, rfl, r1⟩ := one_of ra
      have fin := q.fin Ext.refl R _ (.inl rfl)
      unfold lenV at e
      split at e
      · rename_i l el
        cases e
        obtain ⟨p, vs, rfl, s, r⟩ := elems_ok R el r1
        rw [r.length] at fin
        exact .inl ⟨p, vs, rfl, s, fin⟩
      · split at e
        · split at e
          · rename_i hf
            cases e
            cases (show y = .str _ from r1)
            exact .inr (.inl ⟨_, rfl, fits_le hf, fin⟩)
          · cases e
        · split at e
          · rename_i a kvs e1
            cases e
            obtain ⟨p, rfl, ep⟩ := r1
            obtain ⟨es, h1, rd⟩ := R.dct e1 ep
            refine .inr (.inr ⟨p, es, rfl, h1, ?_⟩)
            rw [show es.length = kvs.length from rd.length.symm]
            exact fin
          · cases e
        · cases e
    · exact q.elim
  · exact q.elim
theorem all_ok (hc : X.calm = true) : CallR X (.builtin "all") (rC T X tl own (builtin .all)) := by
  refine CallR.weak (cr_all hc) fun xs H Q => ?_
  rintro ⟨as, ρ, h, W, σ, R, ra, q⟩
  unfold builtin at q
  dsimp only at q
  split at q
  · split at q
    · split at q
      · rename_i x _ l el _ b hb
        obtain ⟨y, rfl, r1⟩ := one_of ra
        obtain ⟨p, vs, rfl, s, r⟩ := items_ok R el r1
        cases bools_ok hb r
        exact ⟨p, b, rfl, SqL.of s, q.fin Ext.refl R _ (.inl rfl)⟩
      · exact q.elim
    · exact q.elim
  · exact q.elim
theorem any_ok (hc : X.calm = true) : CallR X (.builtin "any") (rC T X tl own (builtin .any)) := by
  refine CallR.weak (cr_any hc) fun xs H Q => ?_
  rintro ⟨as, ρ, h, W, σ, R, ra, q⟩
  unfold builtin at q
  dsimp only at q
  split at q
  · split at q
    · split at q
      · rename_i x _ l el _ b hb
        obtain ⟨y, rfl, r1⟩ := one_of ra
        obtain ⟨p, vs, rfl, s, r⟩ := items_ok R el r1
        cases bools_ok hb r
        exact ⟨p, b, rfl, SqL.of s, q.fin Ext.refl R _ (.inl rfl)⟩
      · exact q.elim
    · exact q.elim
  · exact q.elim
theorem sum_ok (hc : X.calm = true) : CallR X (.builtin "sum") (rC T X tl own (builtin .sum)) := by
  refine CallR.weak (cr_sum hc) fun xs H Q => ?_
  rintro ⟨as, ρ, h, W, σ, R, ra, q⟩
  unfold builtin at q
  dsimp only at q
  split at q
  · split at q
    · split at q
      · rename_i x _ l el _ b hb
        obtain ⟨y, rfl, r1⟩ := one_of ra
        obtain ⟨p, vs, rfl, s, r⟩ := items_ok R el r1
        cases intsOf_ok hb r
        exact ⟨p, b, rfl, SqL.of s, q.fin Ext.refl R _ (.inl rfl)⟩
      · exact q.elim
    · exact q.elim
  · exact q.elim
theorem min_ok (hc : X.calm = true) : CallR X (.builtin "min") (rC T X tl own (builtin .min)) := by
  refine CallR.weak (call_min2 hc) fun xs H Q => ?_
  rintro ⟨as, ρ, h, W, σ, R, ra, q⟩
  unfold builtin at q
  dsimp only at q
  split at q
  · obtain ⟨y, y', rfl, r1, r2⟩ := two_of ra
    cases (show y = .int _ from r1)
    cases (show y' = .int _ from r2)
    exact ⟨_, _, rfl, q.fin Ext.refl R _ (.inl rfl)⟩
  · exact q.elim
theorem max_ok (hc : X.calm = true) : CallR X (.builtin "max") (rC T X tl own (builtin .max)) := by
  refine CallR.weak (call_max2 hc) fun xs H Q => ?_
  rintro ⟨as, ρ, h, W, σ, R, ra, q⟩
  unfold builtin at q
  dsimp only at q
  split at q
  · obtain ⟨y, y', rfl, r1, r2⟩ := two_of ra
    cases (show y = .int _ from r1)
    cases (show y' = .int _ from r2)
    exact ⟨_, _, rfl, q.fin Ext.refl R _ (.inl rfl)⟩
  · exact q.elim
theorem abs_ok : CallR X (.builtin "abs") (rC T X tl own (builtin .abs)) := by
  refine CallR.weak call_abs fun xs H Q => ?_
  rintro ⟨as, ρ, h, W, σ, R, ra, q⟩
  unfold builtin at q
  dsimp only at q
  split at q
  · obtain ⟨y, rfl, r1⟩ := one_of ra
    cases (show y = .int _ from r1)
    exact ⟨_, rfl, q.fin Ext.refl R _ (.inl rfl)⟩
  · exact q.elim
theorem int_ok : CallR X (.type "int") (rC T X tl own (builtin .int)) := by
  refine CallR.weak call_int1 fun xs H Q => ?_
  rintro ⟨as, ρ, h, W, σ, R, ra, q⟩
  unfold builtin at q
  dsimp only at q
  split at q
  · obtain ⟨y, rfl, r1⟩ := one_of ra
    cases (show y = .int _ from r1)
    exact .inl ⟨_, rfl, q.fin Ext.refl R _ (.inl rfl)⟩
  · obtain ⟨y, rfl, r1⟩ := one_of ra
    cases (show y = .bl _ from r1)
    exact .inr ⟨_, rfl, q.fin Ext.refl R _ (.inl rfl)⟩
  · exact q.elim
theorem tuple_ok : CallR X (.type "tuple") (rC T X tl own (builtin .tuple)) := by
  refine CallR.weak call_tuple_of fun xs H Q => ?_
  rintro ⟨as, ρ, h, W, σ, R, ra, q⟩
  unfold builtin at q
  dsimp only at q
  split at q
  · split at q
    · rename_i x _ l el
      obtain ⟨y, rfl, r1⟩ := one_of ra
      obtain ⟨p, vs, rfl, s, r⟩ := elems_ok R el r1
      refine ⟨p, vs, rfl, ?_⟩
      rcases s with s | s
      · refine .inl ⟨s, fun l hl => ?_⟩
        obtain ⟨q1, q2⟩ := new_tup q R r hl
        exact q1 _ q2
      · exact .inr ⟨s, q.fin Ext.refl R _ (.inl ⟨p, vs, rfl, s, r⟩)⟩
    · exact q.elim
  · exact q.elim
theorem list_ok : CallR X (.type "list") (rC T X tl own (builtin .list)) := by
  refine CallR.weak call_list_of fun xs H Q => ?_
  rintro ⟨as, ρ, h, W, σ, R, ra, q⟩
  unfold builtin at q
  dsimp only at q
  split at q
  · split at q
    · rename_i x _ l el
      obtain ⟨y, rfl, r1⟩ := one_of ra
      obtain ⟨p, vs, rfl, s, r⟩ := elems_ok R el r1
      refine ⟨p, vs, rfl, s, fun l hl => ?_⟩
      obtain ⟨_, _, q1, q2⟩ := new_lst q R r hl
      exact q1 _ q2
    · exact q.elim
  · exact q.elim
theorem divmod_ok : CallR X (.builtin "divmod") (rC T X tl own (builtin .divmod)) := by
  refine CallR.weak call_divmod fun xs H Q => ?_
  rintro ⟨as, ρ, h, W, σ, R, ra, q⟩
  unfold builtin at q
  dsimp only at q
  split at q
  · split at q
    · rename_i i j _ hc
      rw [Bool.and_eq_true] at hc
      obtain ⟨y, y', rfl, r1, r2⟩ := two_of ra
      cases (show y = .int _ from r1)
      cases (show y' = .int _ from r2)
      refine ⟨_, _, rfl, ⟨of_decide_eq_true hc.1, of_decide_eq_true hc.2⟩, fun p hp => ?_⟩
      obtain ⟨q1, q2⟩ := new_tup (vs := [.int (i / j), .int (i % j)]) q R ⟨_, _, rfl, rfl, _, _, rfl, rfl, rfl⟩ hp
      exact q1 _ q2
    · exact q.elim
  · exact q.elim
end
end Py

/-! repr; calls of built-ins; append, get. -/
set_option Elab.async false
set_option linter.all false
set_option maxRecDepth 100000
noncomputable section
namespace Py
open PySem PySem.Spec PyProof.Rows L2
section
variable {T : Tb} {X : Cx} {tl : List (Addr × Str)} {own : List Nat} {W : WX} {σ : L2.St} {ρ ρ' : List Addr} {h h' : OHeap} {H H' : Hp} {fr : Py.Frame} {K : PySem.W.Frag} {pins : List (Addr × Obj)} {s : Shared}
/-- what an empty dict reads as -/
theorem dct_reads (I : Inv X pins σ H s) {p : Addr} (e : H p = some (.dK [])) : (p == sysModules) = false ∧ Reads s.heap (.ref p) (.dict []) [p] := by
  obtain ⟨_, hs, vs, kv, o, es, ep, h1, h2, h3, _, h4, _⟩ := I.hok p _ e
  cases kv
  refine ⟨hs, ?_⟩
  have he : es.toList = [] := by
    generalize es.toList = l at h4
    cases h4
    rfl
  exact Reads.dict (kvs := []) h1 h2.1 h3 (by rw [he]; exact .nil) (by rw [he]; exact .nil)
theorem notD : ∀ (f : Nat) {x : PV} {d : PyData}, toData false h f x = some d → d.hasDict = false := by
  have key : ∀ (f : Nat), (∀ {x : PV} {d : PyData}, toData false h f x = some d → d.hasDict = false) ∧ ∀ {x : List PV} {d : List PyData}, toDatas h f x = some d → PyData.hasDictAll d = false := by
    intro f
    induction f with
    | zero => exact ⟨fun e => (nomatch e), fun e => (nomatch e)⟩
    | succ f ih =>
      refine ⟨fun {x d} e => ?_, fun {x d} e => ?_⟩
      · unfold toData at e
        split at e
        · cases e; rfl
        · cases e; rfl
        · cases e; rfl
        · cases e; rfl
        · split at e
          · cases e; exact ih.2 ‹_›
          · cases e
        · split at e
          · split at e
            · cases e; exact ih.2 ‹_›
            · cases e
          · cases e
          · cases e
        · cases e
      · unfold toDatas at e
        split at e
        · cases e; rfl
        · split at e
          · split at e
            · cases e
              unfold PyData.hasDictAll
              rw [ih.1 ‹_›, ih.2 ‹_›]
              rfl
            · cases e
          · cases e
  exact fun f => (key f).1
/-- data, an empty dict perhaps -/
theorem data_any (R : HR T K tl own ρ h H) {f : Nat} {x : PV} {d : PyData} {v : V} (e : toData true h f x = some d) (r : VR T K ρ H x v) : (toData false h f x = some d) ∨ (d = .dict [] ∧ ∃ p, v = .ref p ∧ H p = some (.dK [])) := by
  cases f with
  | zero => cases e
  | succ f =>
    cases x with
    | obj a =>
      obtain ⟨p, rfl, ep⟩ := r
      unfold toData at e ⊢
      dsimp only at e ⊢
      cases hg : h.get a with
      | none => rw [hg] at e; cases e
      | some o =>
        rw [hg] at e
        cases o with
        | dct kvs lk =>
          cases lk with
          | true => cases e
          | false =>
            cases kvs with
            | nil =>
              cases e
              obtain ⟨es, h1, r1⟩ := R.dct hg ep
              cases (show es = [] from r1)
              exact .inr ⟨rfl, p, rfl, h1⟩
            | cons _ _ => cases e
        | lst xs => exact .inl e
        | _ => cases e
    | _ => exact .inl e
theorem shownV_ok (hg : X.A.guards = some []) (hu : X.A.units + 66 < cLine) (I : Inv X pins σ H s) (R : HR T X.K tl own ρ h H) {x : PV} {p : Addr} {t : Str} {Q : VK} (e : shownV h x = some t) (r1 : VR T X.K ρ H x (.ref p)) (fin : Q (.str t) H) :
    wpAny (model X.prog X.w) X.A (call (.builtin "repr") [.ref p]) (EP X pins σ Q) X.xe s := by
  unfold shownV at e
  split at e
  · rename_i d e1
    split at e
    · rename_i hc
      cases e
      rw [Bool.and_eq_true, Bool.and_eq_true] at hc
      have hd : d.depth ≤ 64 := Nat.le_of_ble_eq_true hc.2
      have go : ∀ {as : List Addr}, Reads s.heap (.ref p) d as → (d.hasDict = true → sysModules ∉ as) → wpAny (model X.prog X.w) X.A (call (.builtin "repr") [.ref p]) (EP X pins σ Q) X.xe s := fun {as} r hn =>
        repr_of_reads' r hc.1.1 hn hg (by omega) (fun _ _ z => z) (fun h' u tk hk => ⟨.str _, H, I.kept hk, ⟨_, rfl⟩, fin⟩) (fits_le hc.1.2)
      rcases data_any R e1 r1 with e2 | ⟨rfl, p', ep, hp⟩
      · have dp := data_ok R _ _ _ _ e2 r1
        obtain ⟨as, rd⟩ := Dp.reads I d (.ref p) (.ref p) dp rfl
        have nd := notD _ e2
        exact go rd (fun z => by rw [nd] at z; cases z)
      · cases ep
        obtain ⟨h1, h2⟩ := dct_reads I hp
        exact go h2 fun _ z => by
          cases List.mem_singleton.mp z
          simp at h1
    · cases e
  · cases e
theorem reprV_ok (hg : X.A.guards = some []) (hu : X.A.units + 66 < cLine) : CallR X (.builtin "repr") (rC T X tl own (builtin .repr)) := by
  intro pins s σ0 H xs us Q I rs ⟨as, ρ, h, W, σ, R, ra, q⟩
  unfold builtin at q
  dsimp only at q
  split at q
  · split at q
    · rename_i x _ t e
      obtain ⟨y, rfl, r1⟩ := one_of ra
      obtain ⟨u, rfl, ru⟩ := vals1 rs
      have fin := q.fin Ext.refl R _ (.inl rfl)
      unfold reprV at e
      split at e
      · cases e
        cases (show y = .non from r1)
        cases ru
        exact PySem.P.repr_of_none ⟨.str _, H, I.tok _, ⟨_, rfl⟩, fin⟩
      · cases e
        cases (show y = .bl _ from r1)
        cases ru
        exact PySem.P.repr_of_bool ⟨.str _, H, I.tok _, ⟨_, rfl⟩, fin⟩
      · split at e
        · rename_i i _ hs
          cases e
          cases (show y = .int _ from r1)
          obtain ⟨t, rfl⟩ := ru
          refine PySem.P.repr_of_int ?_ ⟨.str _, H, I.tok _, ⟨_, rfl⟩, fin⟩
          have hs : i.natAbs < 2 ^ 64 := Nat.le_of_ble_eq_true hs
          rcases Nat.eq_zero_or_pos i.natAbs with z | z
          · rw [z]; decide
          · have := (Nat.log2_lt (by omega)).mpr hs
            omega
        · cases e
      · split at e
        · rename_i hf
          cases e
          cases (show y = .str _ from r1)
          obtain ⟨t, rfl⟩ := ru
          exact PySem.P.repr_of_str ⟨.str _, H, I.tok _, ⟨_, rfl⟩, fin⟩ (fits_le hf)
        · cases e
      · obtain ⟨p, vs, rfl, _⟩ := id r1
        cases ru
        exact shownV_ok hg hu I R e r1 fin
      · obtain ⟨p, rfl, _⟩ := id r1
        cases ru
        exact shownV_ok hg hu I R e r1 fin
      · cases e
    · exact q.elim
  · exact q.elim

/-! ### a built-in is called -/
def bfName : BF → Str
  | .len => "len" | .min => "min" | .max => "max" | .abs => "abs" | .all => "all" | .any => "any" | .sum => "sum" | .repr => "repr" | .tuple => "tuple" | .list => "list" | .int => "int" | .divmod => "divmod"
def bfVal : BF → Value
  | .tuple => .type "tuple" | .list => .type "list" | .int => .type "int"
  | .len => .builtin "len" | .min => .builtin "min" | .max => .builtin "max" | .abs => .builtin "abs" | .all => .builtin "all" | .any => .builtin "any" | .sum => .builtin "sum" | .repr => .builtin "repr" | .divmod => .builtin "divmod"
def bfCalm : BF → Bool
  | .min => true | .max => true | .all => true | .any => true | .sum => true
  | _ => false
theorem bf_ok (hg : X.A.guards = some []) (hu : X.A.units + 66 < cLine) : ∀ b : BF, (bfCalm b = true → X.calm = true) → CallR X (bfVal b) (rC T X tl own (builtin b))
  | .len, _ => len_ok
  | .min, hc => min_ok (hc rfl)
  | .max, hc => max_ok (hc rfl)
  | .abs, _ => abs_ok
  | .all, hc => all_ok (hc rfl)
  | .any, hc => any_ok (hc rfl)
  | .sum, hc => sum_ok (hc rfl)
  | .repr, _ => reprV_ok hg hu
  | .tuple, _ => tuple_ok
  | .list, _ => list_ok
  | .int, _ => int_ok
  | .divmod, _ => divmod_ok
variable {a : PySem.Expr} {es : List PySem.Expr} {ea : OHeap → R PV} {eas : OHeap → R (List PV)} {p pos : Pos}
def bfE (b : BF) (eas : OHeap → R (List PV)) : OHeap → R PV := fun h => (eas h).bind fun xs h => builtin b xs h
theorem tcb {f : List PV → OHeap → R PV} {Q : VK} (q : tE T X tl own W fr (fun h => (eas h).bind fun xs h => f xs h) σ H Q) : tCB (rC T X tl own f) (tAs T X tl own W fr eas) σ H Q := by
  obtain ⟨ρ, h, R, Ev, q⟩ := q
  exact q.twoA R Ev fun xs ρ1 h1 H1 vs e1 R1 Ev1 rv q1 => ⟨xs, ρ1, h1, W, σ, R1, rv, q1⟩
theorem se_bf (hg : X.A.guards = some []) (hu : X.A.units + 66 < cLine) {b : BF} (hc : bfCalm b = true → X.calm = true) (hG : Gl X (bfName b)) (hm : X.mg (bfName b) = none) (ha : PA X (a :: es) (tAs T X tl own W fr eas)) (hs : noStar a = true) (hss : es.all noStar = true) :
    PE X (.Call (.Name (bfName b) p) (a :: es) [] pos) (tE T X tl own W fr (bfE b eas)) := by
  have o := bf_ok (T := T) (tl := tl) (own := own) hg hu b hc
  cases b with
  | tuple => exact PE.weak (pe_callTy o hG hm (by kernel_rfl) ha (by decide) (by decide) (star_cons hs) (star_plain hss)) fun σ H Q q => tcb q
  | list => exact PE.weak (pe_callTy o hG hm (by kernel_rfl) ha (by decide) (by decide) (star_cons hs) (star_plain hss)) fun σ H Q q => tcb q
  | int => exact PE.weak (pe_callTy o hG hm (by kernel_rfl) ha (by decide) (by decide) (star_cons hs) (star_plain hss)) fun σ H Q q => tcb q
  | _ => exact PE.weak (pe_callB o hG hm (by kernel_rfl) ha (by decide) (by decide) (star_cons hs) (star_plain hss)) fun σ H Q q => tcb q
end
end Py

/-! Names of the module, fields, isinstance, append, get. -/
set_option Elab.async false
set_option linter.all false
set_option maxRecDepth 100000
noncomputable section
namespace Py
open PySem PySem.Spec PyProof.Rows L2

/-- a flat value, as the machine's -/
def flatV' : PV → V
  | .bl b => .bl b
  | .int i => .int i
  | .str x => .str x
  | _ => .non
theorem flatV'_ok {T : Tb} {K : PySem.W.Frag} {ρ : List Addr} {H : Hp} : ∀ {v : PV}, flatP v = true → ∀ {y : V}, y = flatV' v ↔ VR T K ρ H v y
  | .non, _, _ => Iff.rfl
  | .bl _, _, _ => Iff.rfl
  | .int _, _, _ => Iff.rfl
  | .str _, _, _ => Iff.rfl
  | .obj _, e, _ => nomatch e
  | .glo _, e, _ => nomatch e
  | .tup _, e, _ => nomatch e
  | .exv _, e, _ => nomatch e
def btS : BT → String
  | .non => "NoneType" | .bl => "bool" | .int => "int" | .str => "str" | .lst => "list" | .tup => "tuple" | .dct => "dict"
theorem bt_kit {K : PySem.W.Frag} : ∀ a b : BT, b ≠ .non → PySem.W.kitOne K (.type (btS a)) (.type (btS b)) = some (btSub a b) := by
  intro a b hb
  cases b with
  | non => exact absurd rfl hb
  | _ => cases a <;> exact kit_ty (by decide +kernel)
/-- how a class's objects answer isinstance -/
structure KitC (K : PySem.W.Frag) (C : Addr) : Prop where
  ci : (PySem.W.clsIn K C).isSome = true
  cl : PySem.W.findIn K (.ref C) "__class__" = some (some (.builtin "object.__class__"))
  sp : PySem.W.specialIn K (.builtin "object.__class__") "__get__" = some (some (.builtin "getset_descriptor.__get__"))
  tk : PySem.W.takesIn K (.builtin "object.__class__") = some true
  mo : PySem.W.mroIn K C (.type "object") = some true
/-- what the module must say -/
structure Fx (T : Tb) (K : PySem.W.Frag) (mg : Str → Option Value) : Prop where
  an : T.an.Nodup
  free : ∀ x ∈ T.fr, mg x = none
  val : ∀ g v, T.P.globs.get g = some (.val v) → flatP v = true → ∃ x u, T.gn[g]? = some x ∧ mg x = some u ∧ RelV (flatV' v) u
  cls : ∀ g c, T.P.globs.get g = some (.cls c) → ∃ x, T.gn[g]? = some x ∧ T.cn[c]? = some x ∧ mg x = some (.ref (He.ga K x))
  kit : ∀ c Kc, T.P.clss.get c = some Kc → KitC K (cAdr T K c) ∧ (∀ t : BT, PySem.W.kitOne K (.ref (cAdr T K c)) (.type (btS t)) = some false ∧ PySem.W.kitOne K (.type (btS t)) (.ref (cAdr T K c)) = some false) ∧
    ∀ c' Kc', T.P.clss.get c' = some Kc' → PySem.W.kitOne K (.ref (cAdr T K c)) (.ref (cAdr T K c')) = some (Kc.mro.any fun x => Nat.beq x c')
  fld : ∀ c Kc f, T.P.clss.get c = some Kc → (Kc.flds.any fun x => Nat.beq x f) = true → ∃ n, T.an[f]? = some n ∧ NoAttr K (cAdr T K c) n
  con : ∀ c Kc f v, T.P.clss.get c = some Kc → lookN f Kc.cons = some v → flatP v = true → ∃ n u, T.an[f]? = some n ∧ ClX.CRead K (cAdr T K c) (.type "type") ∧ ClX.CVal K (cAdr T K c) (.type "type") n (flatV' v) u
  ins : ∀ c Kc, T.P.clss.get c = some Kc → Kc.exc = none → L2.Cls K (cAdr T K c)
  exc : ∀ c Kc fs, T.P.clss.get c = some Kc → Kc.exc = some fs → XfC K (cAdr T K c)
  exm : ∀ c Kc fs k Kk fs', T.P.clss.get c = some Kc → Kc.exc = some fs → T.P.clss.get k = some Kk → Kk.exc = some fs' → PySem.W.exmOne K (.ref (cAdr T K c)) (.ref (cAdr T K k)) = some (Kc.mro.any fun x => Nat.beq x k)

section
variable {T : Tb} {X : Cx} {tl : List (Addr × Str)} {own : List Nat} {W : WX} {σ : L2.St} {ρ ρ' : List Addr} {h h' : OHeap} {H H' : Hp} {fr : Py.Frame} {K : PySem.W.Frag} {pins : List (Addr × Obj)} {s : Shared} {mg : Str → Option Value}
variable {a b c : PySem.Expr} {ea eb ec : OHeap → R PV} {pos p : Pos} {es : List PySem.Expr} {eas : OHeap → R (List PV)}

def gloE (P : Prog) (g : Nat) : OHeap → R PV := fun h => (match P.globs.get g with
    | some (.val v) => (match flatP v with
      | true => .ok v h
      | false => .no)
    | _ => .no)
theorem PE.none {t : TE} (h : ∀ σ H Q, ¬ t σ H Q) : PE X a t := ⟨fun _ _ σ H Q _ q => absurd q (h σ H Q)⟩
theorem se_glo (F : Fx T X.K X.mg) {g : Nat} {x : Str} (hx : T.gn[g]? = some x) (hg : Gl X x) (hd : (x == ("__debug__" : Str)) = false) : PE X (.Name x pos) (tE T X tl own W fr (gloE T.P g)) := by
  have no : (∀ h, gloE T.P g h = .no) → PE X (.Name x pos) (tE T X tl own W fr (gloE T.P g)) := fun z => PE.none fun σ H Q ⟨ρ, h, R, Ev, q⟩ => by rw [z] at q; exact q
  cases e : T.P.globs.get g with
  | none => exact no fun h => by unfold gloE; rw [e]
  | some v =>
    cases v with
    | val v =>
      cases hf : flatP v with
      | false => exact no fun h => by unfold gloE; rw [e]; dsimp only; rw [hf]
      | true =>
        obtain ⟨x', u, hx', hm, r⟩ := F.val g v e hf
        rw [hx] at hx'
        cases hx'
        refine PE.weak (pe_glob hg hm r hd) fun σ H Q ⟨ρ, h, R, Ev, q⟩ => ?_
        unfold gloE at q
        rw [e] at q
        dsimp only at q
        rw [hf] at q
        exact q.fin Ext.refl R _ (.inl ((flatV'_ok hf).mp rfl))
    | _ => exact no fun h => by unfold gloE; rw [e]
def cconE (P : Prog) (g f : Nat) : OHeap → R PV := fun h => (match P.globs.get g with
    | some (.cls c) => (match P.clss.get c with
      | some K => (match lookN f K.cons with
        | some v => (match flatP v with
          | true => .ok v h
          | false => .no)
        | none => .no)
      | none => .no)
    | _ => .no)
theorem cAdr_of {c : Nat} {x : Str} (e : T.cn[c]? = some x) : cAdr T K c = He.ga K x := by unfold cAdr; rw [e]
theorem se_ccon (F : Fx T X.K X.mg) {g f : Nat} {x n : Str} (hx : T.gn[g]? = some x) (hn : T.an[f]? = some n) (hg : Gl X x) (hd : (x == ("__debug__" : Str)) = false) : PE X (.Attribute (.Name x p) n pos) (tE T X tl own W fr (cconE T.P g f)) := by
  cases e : T.P.globs.get g with
  | none => exact PE.none fun σ H Q ⟨ρ, h, R, Ev, q⟩ => by unfold cconE at q; rw [e] at q; exact q
  | some v =>
    cases v with
    | cls c =>
      obtain ⟨x', hx', hc, hm⟩ := F.cls g c e
      rw [hx] at hx'
      cases hx'
      refine PE.weak (ClX.pe_cval (pe_glob hg hm (v := .ref (He.ga X.K x)) rfl hd) (plainBase_of rfl)) fun σ H Q ⟨ρ, h, R, Ev, q⟩ => ?_
      unfold cconE at q
      rw [e] at q
      dsimp only at q
      split at q
      · rename_i Kc eK
        split at q
        · rename_i v ev
          split at q
          · rename_i hf
            obtain ⟨n', u, hn', r1, r2⟩ := F.con c Kc f v eK ev hf
            rw [hn] at hn'
            cases hn'
            rw [cAdr_of hc] at r1 r2
            exact ⟨_, _, _, u, rfl, r1, r2, q.fin Ext.refl R _ (.inl ((flatV'_ok hf).mp rfl))⟩
          · exact q.elim
        · exact q.elim
      · exact q.elim
    | _ => exact PE.none fun σ H Q ⟨ρ, h, R, Ev, q⟩ => by unfold cconE at q; rw [e] at q; exact q
theorem se_neg (ha : PE X a (tE T X tl own W fr ea)) : PE X (.UnaryOp .USub a pos) (tE T X tl own W fr fun h => (ea h).bind fun x h => (match x with
    | .int i => .ok (.int (-i)) h
    | _ => .no)) := by
  refine PE.weak (pe_un un_neg ha) fun σ H Q ⟨ρ, h, R, Ev, q⟩ => ?_
  refine Run.two R Ev q fun x ρ1 h1 H1 v e1 R1 Ev1 rv q1 => ?_
  split at q1
  · exact ⟨_, rv.int, q1.fin Ext.refl R1 _ (.inl rfl)⟩
  · exact q1.elim

/-! ### fields -/
theorem FR.look (nd : T.an.Nodup) {f : Nat} {n : Str} (hn : T.an[f]? = some n) : ∀ {fs : List (Nat × PV)} {gs : List (Str × V)}, FR T K ρ H fs gs → ∀ {v : PV}, lookN f fs = some v → ∃ y, gs.lookup n = some y ∧ VR T K ρ H v y
  | [], _, _, _, e => nomatch e
  | (g, x) :: r, gs, hr, v, e => by
    obtain ⟨m, y, q, rfl, hm, r1, r2⟩ := hr
    unfold lookN at e
    split at e
    · rename_i hb
      cases e
      have : g = f := Nat.eq_of_beq_eq_true hb
      subst this
      rw [hn] at hm
      cases hm
      exact ⟨y, by simp [List.lookup], r1⟩
    · rename_i hb
      have hne : (n == m) = false := by
        rw [beq_eq_false_iff_ne]
        intro z
        subst z
        have : f = g := nodup_ix nd hn hm
        subst this
        rw [Nat.beq_refl] at hb
        cases hb
      obtain ⟨y', e', r'⟩ := FR.look nd hn r2 e
      exact ⟨y', by simp only [List.lookup, hne]; exact e', r'⟩
def fldE (P : Prog) (f : Nat) (ea : OHeap → R PV) : OHeap → R PV := fun h => (ea h).bind fun x h => field P x f h
theorem exc_at (I : Inv X pins σ H s) {e : Addr} {oe : Obj} (h : (e, oe) ∈ X.pn) : s.heap.get? e = some oe := (I.pin (e, oe) (List.mem_append_left _ h)).1
theorem get_cls {P : Prog} {c f : Nat} (e : hasFld P false c f = true) : ∃ Kc, P.clss.get c = some Kc ∧ (Kc.flds.any fun x => Nat.beq x f) = true ∧ Kc.exc = none := by
  unfold hasFld at e
  split at e
  · rename_i Kc ek
    rw [Bool.and_eq_true] at e
    refine ⟨Kc, ek, e.2, ?_⟩
    cases z : Kc.exc with
    | none => rfl
    | some _ => rw [z] at e; cases e.1
  · cases e
theorem get_clsX {P : Prog} {c f : Nat} (e : hasFld P true c f = true) : ∃ Kc fs, P.clss.get c = some Kc ∧ (Kc.flds.any fun x => Nat.beq x f) = true ∧ Kc.exc = some fs := by
  unfold hasFld at e
  split at e
  · rename_i Kc ek
    rw [Bool.and_eq_true] at e
    cases z : Kc.exc with
    | none => rw [z] at e; cases e.1
    | some fs => exact ⟨Kc, fs, ek, e.2, z⟩
  · cases e
theorem se_fld (F : Fx T X.K X.mg) {f : Nat} {n : Str} (hn : T.an[f]? = some n) (hb : plainBase a = true) (ha : PE X a (tE T X tl own W fr ea)) : PE X (.Attribute a n pos) (tE T X tl own W fr (fldE T.P f ea)) := by
  refine ⟨fun pins s σ H Q I q => ?_⟩
  obtain ⟨ρ, h, R, Ev, q⟩ := q
  refine attr_of (plainBase_of hb) (thn (ha.run pins s σ H (fun v H1 => ∃ x ρ1 h1, HR T X.K tl own ρ1 h1 H1 ∧ VT T X ρ1 h1 H1 x v ∧ Run T X tl own W σ (field T.P x f h1) (fun v ρ' h' H' => ∀ y, VT T X ρ' h' H' v y → Q y H') ρ1 h1 H1) I
    (Run.two R Ev q fun x ρ1 h1 H1 v e1 R1 Ev1 rv q1 => ⟨x, ρ1, h1, R1, rv, q1⟩)) fun u s1 ⟨v, H1, I1, rx, x, ρ1, h1, R1, rv, q1⟩ => ?_)
  unfold field at q1
  split at q1
  · rename_i o
    split at q1
    · rename_i c fs e1
      split at q1
      · rename_i w ew
        split at q1
        · rename_i hh
          obtain ⟨Kc, eK, hf, hx⟩ := get_cls hh
          obtain ⟨n', hn', na⟩ := F.fld c Kc f eK hf
          rw [hn] at hn'
          cases hn'
          obtain ⟨p, rfl, ep⟩ := rv.obj
          obtain ⟨dx, fs', hp, rf⟩ := R1.atp e1 ep
          obtain ⟨y, ly, ry⟩ := rf.look F.an hn ew
          cases (show u = Value.ref p from rx)
          have cl : L2.Cls X.K (cAdr T X.K c) := F.ins c Kc eK hx
          exact getattr_ok I1 hp cl na ly fun u' s2 I2 ru => ⟨y, H1, I2, ru, q1.fin Ext.refl R1 _ (.inl ry)⟩
        · exact q1.elim
      · exact q1.elim
    · exact q1.elim
  · rename_i o
    split at q1
    · rename_i c fs e1
      split at q1
      · rename_i w ew
        split at q1
        · rename_i hh
          obtain ⟨Kc, efs, eK, hf, hx0⟩ := get_clsX hh
          obtain ⟨n', hn', na⟩ := F.fld c Kc f eK hf
          rw [hn] at hn'
          cases hn'
          rcases rv with rv | ⟨_, a0, e, oe, dd, c0, fs0, ex, rfl, hp, hg, hr, hc, hd, us, hu⟩
          · exact rv.elim
          · cases ex
            rw [e1] at hg
            cases hg
            obtain ⟨fs', hx, rf⟩ := R1.atp e1 hr
            obtain ⟨y, ly, ry⟩ := rf.look F.an hn ew
            cases (show u = Value.ref e from rx)
            obtain ⟨mA, hns, hra⟩ := (show ObjOk X.prog X.w H1 s1.heap dd (.xd fs') from I1.hok dd _ hx)
            obtain ⟨od, ho, hl⟩ := lookIn_ns hns
            obtain ⟨u', hu', ru⟩ := RelO.some_of (v := y) (o := mA n) (by rw [← ly]; exact hra n)
            have xf : XfC X.K (cAdr T X.K c) := F.exc c Kc efs eK hx0
            have J : PySem.W.InstAt s1.heap e oe (cAdr T X.K c) (some od) := ⟨exc_at I1 hp, hc, by unfold PySem.W.notCls; rw [hu], by rw [hd]; exact ho⟩
            exact HandSPX.exc_get I1.kIn J xf.ga xf.gg xf.exC (PySem.W.findObj_own xf.hdC na rfl (by rw [hl, hu'])) (handed_of ru) ⟨y, H1, I1.tok _, ru, q1.fin Ext.refl R1 _ (.inl ry)⟩
        · exact q1.elim
      · exact q1.elim
    · exact q1.elim
  · exact q1.elim
end
end Py

/-! isinstance, append, get. -/
set_option Elab.async false
set_option linter.all false
set_option maxRecDepth 100000
noncomputable section
namespace Py
open PySem PySem.Spec PyProof.Rows L2
section
variable {T : Tb} {X : Cx} {tl : List (Addr × Str)} {own : List Nat} {W : WX} {σ : L2.St} {ρ ρ' : List Addr} {h h' : OHeap} {H H' : Hp} {fr : Py.Frame} {K : PySem.W.Frag} {pins : List (Addr × Obj)} {s : Shared} {mg : Str → Option Value}
variable {a b c : PySem.Expr} {ea eb ec : OHeap → R PV} {pos p : Pos} {es : List PySem.Expr} {eas : OHeap → R (List PV)}
theorem tyX_lst {q : Addr} {xs : List V} (s : SqL K H q xs) : TyX K H (.ref q) (.type "list") := by
  rcases s with (s | ⟨o, s⟩) | ⟨o, _, _, s, hc, _⟩
  · exact .base (.lst s)
  · exact .base (.frz s)
  · exact .kList s hc
theorem tyX_tup {q : Addr} {xs : List V} (s : SqT K H q xs) : TyX K H (.ref q) (.type "tuple") := by
  rcases s with (s | ⟨o, s⟩) | ⟨o, _, _, s, hc, _⟩
  · exact .base (.tup s)
  · exact .fTuple s
  · exact .kTuple s hc
theorem ty_of (R : HR T X.K tl own ρ h H) {x : PV} {v : V} {t : BT} (e : typeName h x = some t) (r : VT T X ρ h H x v) : TyX X.K H v (.type (btS t)) := by
  unfold typeName at e
  split at e
  · cases e; rw [r.non]; exact .base .non
  · cases e; rw [r.bl]; exact .base (.bl _)
  · cases e; rw [r.int]; exact .base (.int _)
  · cases e; rw [r.str]; exact .base (.str _)
  · cases e
    obtain ⟨p, vs, rfl, s, _⟩ := r.tup
    exact tyX_tup s
  · obtain ⟨p, rfl, ep⟩ := r.obj
    split at e
    · cases e
      rename_i e1
      obtain ⟨vs, h1, _⟩ := R.lst e1 ep
      exact .base (.lst h1)
    · cases e
      rename_i e1
      obtain ⟨vs, _, ⟨o, h1⟩ | h1⟩ := R.atp e1 ep
      · exact .base (.frz h1)
      · rcases h1 with (h1 | ⟨_, h1⟩) | ⟨o, _, _, h1, hc, _⟩
        · cases h1
        · cases h1
        · exact .kList h1 hc
    · cases e
      rename_i e1
      obtain ⟨es, h1, _⟩ := R.dct e1 ep
      exact .base (.dK h1)
    · cases e
  · cases e
def crV (T : Tb) (K : PySem.W.Frag) : CR → Value
  | .bt n => .type (btS n)
  | .own c => .ref (cAdr T K c)
def crOk (T : Tb) : CR → Prop
  | .bt n => n ≠ .non
  | .own c => ∃ Kc, T.P.clss.get c = some Kc
theorem kit_at (F : Fx T X.K X.mg) (I : Inv X pins σ H s) (R : HR T X.K tl own ρ h H) {x : PV} {v : V} {u : Value} (r : VT T X ρ h H x v) (ru : RelV v u) {c₀ : CR} {b₀ : Bool} (e₀ : isa T.P h x c₀ = some b₀) :
    ∃ (t : Value) (Pr : Heap → Prop), PySem.W.KitX X.K u t Pr ∧ Pr s.heap ∧ u ≠ .builtin "__main__.__loader__#opaque" ∧ ∀ c b, crOk T c → isa T.P h x c = some b → PySem.W.kitOne X.K t (crV T X.K c) = some b := by
  cases et : typeName h x with
  | some t =>
    obtain ⟨Pr, Z, p, n⟩ := kit_of I ru (ty_of R et r)
    refine ⟨_, Pr, Z, p, n, fun c b ok e => ?_⟩
    unfold isa at e
    rw [et] at e
    cases c with
    | bt m => cases e; exact bt_kit t m ok
    | own c =>
      cases e
      obtain ⟨Kc, eK⟩ := ok
      exact ((F.kit c Kc eK).2.1 t).2
  | none =>
    unfold isa at e₀
    rw [et] at e₀
    dsimp only at e₀
    cases eo : ownCls T.P h x with
    | none => rw [eo] at e₀; cases e₀
    | some q =>
      obtain ⟨k, Kk⟩ := q
      have hk : T.P.clss.get k = some Kk → ∀ c b, crOk T c → isa T.P h x c = some b → PySem.W.kitOne X.K (.ref (cAdr T X.K k)) (crV T X.K c) = some b := fun eK c b ok e => by
        unfold isa at e
        rw [et, eo] at e
        dsimp only at e
        cases c with
        | bt m => cases e; exact ((F.kit k Kk eK).2.1 m).1
        | own c =>
          cases e
          obtain ⟨Kc, eKc⟩ := ok
          exact (F.kit k Kk eK).2.2 c Kc eKc
      unfold ownCls at eo
      split at eo
      · split at eo
        · rename_i e1
          split at eo
          · rename_i eK
            split at eo
            · rename_i ex
              cases eo
              obtain ⟨q, rfl, eq⟩ := r.obj
              obtain ⟨dx, fs', hq, _⟩ := R.atp e1 eq
              obtain ⟨kc, _⟩ := F.kit k Kk eK
              obtain ⟨Pr, Z, p, n⟩ := kit_of I ru (.base (.ins hq (F.ins k Kk eK ex) kc.cl kc.sp kc.tk kc.mo))
              exact ⟨_, Pr, Z, p, n, hk eK⟩
            · cases eo
          · cases eo
        · cases eo
      · split at eo
        · rename_i e1
          split at eo
          · rename_i eK
            split at eo
            · cases eo
            · rename_i ex
              cases eo
              rcases r with r | ⟨_, a0, e, oe, dd, c0, fs0, z, rfl, hp, hg, hr, hc, hd, us, hu⟩
              · exact r.elim
              · cases z
                rw [e1] at hg
                cases hg
                cases (show u = Value.ref e from ru)
                obtain ⟨fs', hx, _⟩ := R.atp e1 hr
                obtain ⟨mA, hns, _⟩ := (show ObjOk X.prog X.w H s.heap dd (.xd fs') from I.hok dd _ hx)
                obtain ⟨od, ho, _⟩ := lookIn_ns hns
                obtain ⟨kc, _⟩ := F.kit k Kk eK
                have xf := F.exc k Kk _ eK ex
                refine ⟨_, _, PySem.W.kitx_exc (x := e) (C := cAdr T X.K k) (ox := oe) (od := some od) kc.ci xf.ga xf.gg xf.exC kc.cl kc.sp kc.tk kc.mo, ?_, (fun z => nomatch z), hk eK⟩
                exact ⟨exc_at I hp, hc, by unfold PySem.W.notCls; rw [hu], by rw [hd]; exact ho⟩
          · cases eo
        · cases eo
      · cases eo
/-! the classes that are written -/
def crExpr (T : Tb) : CR → Str → Prop
  | .bt n, x => x = (match n with | .non => "" | .bl => "bool" | .int => "int" | .str => "str" | .lst => "list" | .tup => "tuple" | .dct => "dict") ∧ n ≠ .non ∧ x ∈ T.fr
  | .own c, x => ∃ g, T.gn[g]? = some x ∧ T.P.globs.get g = some (.cls c) ∧ ∃ Kc, T.P.clss.get c = some Kc
def crVV (T : Tb) (K : PySem.W.Frag) : CR → V
  | .bt n => .ty (btS n)
  | .own c => .ref (cAdr T K c)
theorem crV_of {c : CR} : ClsV (crVV T K c) (crV T K c) := by
  cases c with
  | bt n => exact .ty _
  | own c => exact .own _
theorem crOk_of {c : CR} {x : Str} (e : crExpr T c x) : crOk T c := by
  cases c with
  | bt n => exact e.2.1
  | own c => obtain ⟨_, _, _, h⟩ := e; exact h
theorem pe_cr (F : Fx T X.K X.mg) {c : CR} {x : Str} (e : crExpr T c x) (hg : Gl X x) (hd : (x == ("__debug__" : Str)) = false) : PE X (.Name x p) (tC (crVV T X.K c)) := by
  cases c with
  | bt n =>
    obtain ⟨rfl, hn, hf⟩ := e
    have hm := F.free _ hf
    cases n with
    | non => exact absurd rfl hn
    | _ => exact pe_bltn hg hm (by kernel_rfl) rfl (by decide) (by decide)
  | own c =>
    obtain ⟨g, hx, hc, _⟩ := e
    obtain ⟨x', hx', hc', hm⟩ := F.cls g c hc
    rw [hx] at hx'
    cases hx'
    exact pe_glob hg hm (by show RelV (.ref (cAdr T X.K c)) _; rw [cAdr_of hc']; rfl) hd
def isiE (P : Prog) (cs : List CR) (ea : OHeap → R PV) : OHeap → R PV := fun h => (ea h).bind fun x h => (match isaAny P h x cs with
    | some b => .ok (.bl b) h
    | none => .no)
theorem call_isi1 (F : Fx T X.K X.mg) {c : CR} (ok : crOk T c) : CallR X (.builtin "isinstance") (fun xs H Q => ∃ x y ρ h b, xs = [y, crVV T X.K c] ∧ HR T X.K tl own ρ h H ∧ VT T X ρ h H x y ∧ isa T.P h x c = some b ∧ Q (.bl b) H) := by
  intro pins s σ H xs us Q I r ⟨x, y, ρ, h, b, ex, R, ry, e, q⟩
  subst ex
  obtain ⟨u1, u2, rfl, r1, r2⟩ := vals2 r
  cases crV_of.eq r2
  obtain ⟨t, Pr, Z, p, n, hk⟩ := kit_at F I R ry r1 e
  exact PySem.W.kia_one Z I.kIn p (hk c b ok e) n fun tk => ⟨.bl b, H, I.tok tk, rfl, q⟩
theorem kits {K : PySem.W.Frag} {P : Prog} {x : PV} {t : Value} : ∀ {cs : List CR} {b : Bool}, (∀ c ∈ cs, ∀ b, isa P h x c = some b → PySem.W.kitOne K t (crV T K c) = some b) → isaAny P h x cs = some b → PySem.W.kitAny K t (cs.map (crV T K)) = some b
  | [], b, _, e => by cases e; rfl
  | c :: cs, b, hk, e => by
    unfold isaAny at e
    split at e
    · rename_i e1
      cases e
      exact kitAny_cons (hk c List.mem_cons_self _ e1) (fun z => nomatch z) (fun _ => rfl)
    · rename_i e1
      exact kitAny_cons (hk c List.mem_cons_self _ e1) (fun _ => kits (fun c' hc => hk c' (List.mem_cons_of_mem _ hc)) e) (fun z => nomatch z)
    · cases e
theorem call_isiN (F : Fx T X.K X.mg) {cs : List CR} (ok : ∀ c ∈ cs, crOk T c) (hn : cs ≠ []) : CallR X (.builtin "isinstance") (fun xs H Q => ∃ x y tp ρ h b, xs = [y, .ref tp] ∧ H tp = some (.tup (cs.map (crVV T X.K))) ∧ HR T X.K tl own ρ h H ∧ VT T X ρ h H x y ∧ isaAny T.P h x cs = some b ∧ Q (.bl b) H) := by
  intro pins s σ H xs us Q I r ⟨x, y, tp, ρ, h, b, ex, hT, R, ry, e, q⟩
  subst ex
  obtain ⟨u1, u2, rfl, r1, r2⟩ := vals2 r
  cases (show u2 = Value.ref tp from r2)
  have : ∃ c₀ b₀, isa T.P h x c₀ = some b₀ := by
    cases cs with
    | nil => exact absurd rfl hn
    | cons c cs =>
      unfold isaAny at e
      split at e
      · exact ⟨c, _, ‹_›⟩
      · exact ⟨c, _, ‹_›⟩
      · cases e
  obtain ⟨c₀, b₀, e₀⟩ := this
  obtain ⟨t, Pr, Z, p, n, hk⟩ := kit_at F I R ry r1 e₀
  obtain ⟨_, its, rv, o, h1, h2, m, h3⟩ := (show ObjOk X.prog X.w H s.heap tp (.tup (cs.map (crVV T X.K))) from I.hok tp _ hT)
  have pc : ∀ l : List CR, Paired ClsV (l.map (crVV T X.K)) (l.map (crV T X.K)) := fun l => by
    induction l with
    | nil => exact .nil
    | cons c l ih => exact .cons crV_of ih
  cases ClsV.all (pc cs) rv
  obtain ⟨oc, od, dt, sl⟩ := o
  dsimp only at h2 h3
  subst h2 h3
  exact PySem.W.kia_tup Z I.kIn p h1 (kits (fun c hc b e => hk c b (ok c hc) e) e) n fun tk => ⟨.bl b, H, I.tok tk, rfl, q⟩
theorem se_isi1 (F : Fx T X.K X.mg) {c : CR} {x : Str} {p2 : Pos} (e : crExpr T c x) (hg : Gl X x) (hd : (x == ("__debug__" : Str)) = false) (hi : ("isinstance" : Str) ∈ T.fr) (hG : Gl X "isinstance") (hs : noStar a = true) (ha : PE X a (tE T X tl own W fr ea)) :
    PE X (.Call (.Name "isinstance" p) [a, .Name x p2] [] pos) (tE T X tl own W fr (isiE T.P [c] ea)) := by
  refine PE.weak (pe_callB (call_isi1 (T := T) (tl := tl) (own := own) F (crOk_of e)) hG (F.free _ hi) (by kernel_rfl) (pa_cons ha (pa_cons (pe_cr F e hg hd) pa_nil (star_cons rfl)) (star_cons hs)) (by decide) (by decide) (star_cons hs) (star_plain rfl)) fun σ H Q ⟨ρ, h, R, Ev, q⟩ => ?_
  refine Run.two R Ev q fun y ρ1 h1 H1 v e1 R1 Ev1 rv q1 => ?_
  unfold isaAny at q1
  split at q1
  · rename_i b hb
    split at hb
    · rename_i e2
      cases hb
      exact ⟨y, v, ρ1, h1, true, rfl, R1, rv, e2, q1.fin Ext.refl R1 _ (.inl rfl)⟩
    · rename_i e2
      cases hb
      exact ⟨y, v, ρ1, h1, false, rfl, R1, rv, e2, q1.fin Ext.refl R1 _ (.inl rfl)⟩
    · cases hb
  · exact q1.elim
/-- the written classes of a tuple -/
inductive CrsOk (T : Tb) (X : Cx) : List CR → List PySem.Expr → Prop
  | nil : CrsOk T X [] []
  | cons {c : CR} {x : Str} {p2 : Pos} {cs : List CR} {es : List PySem.Expr} (e : crExpr T c x) (hg : Gl X x) (hd : (x == ("__debug__" : Str)) = false) (r : CrsOk T X cs es) : CrsOk T X (c :: cs) (.Name x p2 :: es)
def tVals (vs : List V) : TA := fun _ H Q => Q vs H
theorem pa_crs (F : Fx T X.K X.mg) : ∀ {cs : List CR} {es : List PySem.Expr}, CrsOk T X cs es → PA X es (tVals (cs.map (crVV T X.K)))
  | _, _, .nil => PA.weak pa_nil fun _ _ _ q => q
  | _, _, .cons e hg hd r => PA.weak (pa_cons (pe_cr F e hg hd) (pa_crs F r) (star_cons rfl)) fun _ _ _ q => q
theorem crs_ok : ∀ {cs : List CR} {es : List PySem.Expr}, CrsOk T X cs es → ∀ c ∈ cs, crOk T c
  | _, _, .nil, _, h => nomatch h
  | _, _, .cons e _ _ r, c, h => by
    rcases List.mem_cons.mp h with rfl | h
    · exact crOk_of e
    · exact crs_ok r c h
theorem se_isiN (F : Fx T X.K X.mg) {cs : List CR} {x1} {p2 : Pos} (e : CrsOk T X cs es) (hn : cs ≠ []) (hl : cs.length ≤ 16777216) (hi : ("isinstance" : Str) ∈ T.fr) (hG : Gl X "isinstance") (hs : noStar a = true) (ha : PE X a (tE T X tl own W fr ea)) :
    PE X (.Call (.Name "isinstance" p) [a, .Tuple es x1 p2] [] pos) (tE T X tl own W fr (isiE T.P cs ea)) := by
  refine PE.weak (pe_callB (call_isiN (T := T) (tl := tl) (own := own) F (crs_ok e) hn) hG (F.free _ hi) (by kernel_rfl) (pa_cons ha (pa_cons (pe_tup (pa_crs F e)) pa_nil (star_cons rfl)) (star_cons hs)) (by decide) (by decide) (star_cons hs) (star_plain rfl)) fun σ H Q ⟨ρ, h, R, Ev, q⟩ => ?_
  refine Run.two R Ev q fun y ρ1 h1 H1 v e1 R1 Ev1 rv q1 => ?_
  refine ⟨by rw [List.length_map, sizeLine_eq]; exact hl, fun tp htp => ?_⟩
  have x2 : Ext X.K [] ρ1 h1 H1 ρ1 h1 (upd H1 tp (.tup (cs.map (crVV T X.K)))) := Ext.laid htp
  have R2 := R1.laid (u := .tup (cs.map (crVV T X.K))) htp
  split at q1
  · rename_i b hb
    exact ⟨y, v, tp, ρ1, h1, b, rfl, upd_same, R2, rv.later x2, hb, q1.fin x2 R2 _ (.inl rfl)⟩
  · exact q1.elim

/-! ### append, get -/
def appE (eo ea : OHeap → R PV) : OHeap → R PV := fun h => (eo h).bind fun x h => (match items h x with
    | some _ => (ea h).bind fun y h => append x y h
    | none => .no)
theorem at_obj {x : PV} {v : V} {l : List PV} (R : HR T X.K tl own ρ h H) (e : items h x = some l) (r : VT T X ρ h H x v) : ∃ q vs, v = .ref q ∧ H q = some (.lst vs) := by
  unfold items at e
  split at e
  · obtain ⟨q, rfl, eq⟩ := r.obj
    split at e
    · rename_i e1
      obtain ⟨vs, h1, _⟩ := R.lst e1 eq
      exact ⟨q, vs, rfl, h1⟩
    · cases e
  · cases e
theorem se_app {eo : OHeap → R PV} {o : PySem.Expr} {apos : Pos} (hb : plainBase o = true) (hl : (apos.endLine == pos.line) = true) (ho : PE X o (tE T X tl own W fr eo)) (hs : noStar a = true) (ha : PE X a (tE T X tl own W fr ea)) :
    PE X (.Call (.Attribute o "append" apos) [a] [] pos) (tE T X tl own W fr (appE eo ea)) := by
  have few : ((backTo pos (starEach [a] X.env)).all (fun x => !x.1) && (backToKw pos (keywordEach [] X.env)).all (fun x => x.1.isSome)
      && decide (([a] : List PySem.Expr).length + ([] : List Keyword).length + (if ([] : List Keyword).isEmpty then 0 else 1) < 30)) = true := by
    rw [star_all (by simp [hs])]
    rfl
  refine PE.weak (pe_bm PySem.F.plainAttrs_list PySem.F.slot_list_append PySem.F.type_list_append mt_append ho (pa_cons ha pa_nil (star_cons hs)) (plainBase_of hb) few hl (star_cons hs) (star_plain rfl)) fun σ H Q ⟨ρ, h, R, Ev, q⟩ => ?_
  refine Run.two R Ev q fun x ρ1 h1 H1 v e1 R1 Ev1 rv q1 => ?_
  split at q1
  · rename_i l el
    obtain ⟨q0, vs0, rfl, h0⟩ := at_obj R1 el rv
    refine ⟨.inl ⟨rfl, vs0, SqL.of h0⟩, ?_⟩
    refine Run.two R1 Ev1 q1 fun y ρ2 h2 H2 w e2 R2 Ev2 rw_ q2 => ?_
    have rv2 := rv.later e2
    unfold append at q2
    split at q2
    · rename_i o hc
      split at q2
      · rename_i xs ex
        split at q2
        · rename_i hf
          obtain ⟨q, eq, er⟩ := rv2.obj
          cases eq
          obtain ⟨vs, h1', r1⟩ := R2.lst ex er
          have hw : Wr (H2 q0) := by rw [h1']; exact True.intro
          have x3 : Ext X.K [] ρ2 h2 H2 ρ2 (h2.set o (.lst (xs ++ [y]))) (upd H2 q0 (.lst (vs ++ [w]))) := Ext.set ex rfl hw
          have R3 := R2.set ex er (fun z => z) hw (fun z => z) (u := .lst (vs ++ [w])) (o := .lst (xs ++ [y])) ⟨_, upd_same, (r1.app (VRs.one (rw_.cl hc))).ext x3⟩
          refine ⟨q0, vs, w, rfl, rfl, h1', ?_, q2.fin x3 R3 _ (.inl rfl)⟩
          have := fits_le hf
          rw [← r1.length]
          omega
        · exact q2.elim
      · exact q2.elim
    · exact q2.elim
  · exact q1.elim
def dgetE (eo ek ed : OHeap → R PV) : OHeap → R PV := fun h => (eo h).bind fun x h => (match isEmptyD h x with
    | true => (ek h).bind fun y h => (ed h).bind fun z h => dgetV x y z h
    | false => .no)
theorem emptyD {x : PV} {v : V} (R : HR T X.K tl own ρ h H) (e : isEmptyD h x = true) (r : VT T X ρ h H x v) : ∃ q, v = .ref q ∧ H q = some (.dK []) := by
  unfold isEmptyD at e
  split at e
  · obtain ⟨q, rfl, eq⟩ := r.obj
    split at e
    · rename_i e1
      obtain ⟨es, h1, r1⟩ := R.dct e1 eq
      cases (show es = [] from r1)
      exact ⟨q, rfl, h1⟩
    · cases e
  · cases e
theorem se_dget {eo ek ed : OHeap → R PV} {o : PySem.Expr} {apos : Pos} (hu : X.A.units + 66 < cLine) (hb : plainBase o = true) (hl : (apos.endLine == pos.line) = true) (ho : PE X o (tE T X tl own W fr eo)) (hsa : noStar a = true) (hsb : noStar b = true)
    (ha : PE X a (tE T X tl own W fr ek)) (hB : PE X b (tE T X tl own W fr ed)) : PE X (.Call (.Attribute o "get" apos) [a, b] [] pos) (tE T X tl own W fr (dgetE eo ek ed)) := by
  have M : M2 X o "get" apos a b pos := ⟨plainBase_of hb, by rw [star_all (by simp [hsa, hsb])]; rfl, hl, by rw [star_cons hsa, star_cons hsb]; rfl⟩
  refine PE.weak (pe_dget2 (by omega) ho ha hB M) fun σ H Q ⟨ρ, h, R, Ev, q⟩ => ?_
  refine Run.two R Ev q fun x ρ1 h1 H1 v e1 R1 Ev1 rv q1 => ?_
  split at q1
  · rename_i hd
    obtain ⟨q0, rfl, h0⟩ := emptyD R1 hd rv
    refine ⟨q0, rfl, .inl ⟨[], .inl h0⟩, ?_⟩
    refine Run.two R1 Ev1 q1 fun y ρ2 h2 H2 w e2 R2 Ev2 rw_ q2 => Run.two R2 Ev2 q2 fun z ρ3 h3 H3 t e3 R3 Ev3 rz q3 => ?_
    unfold dgetV at q3
    split at q3
    · rename_i hd3
      obtain ⟨q1, e1, h1'⟩ := emptyD R3 hd3 ((rv.later e2).later e3)
      cases e1
      exact ⟨none, .inl ⟨[], .inr _, .inl h1', rw_.str, rfl⟩, q3.fin Ext.refl R3 _ rz⟩
    · exact q3.elim
  · exact q1.elim
end
end Py

/-! Statements: what is wanted of their ends; targets. -/
set_option Elab.async false
set_option linter.all false
set_option maxRecDepth 100000
noncomputable section
namespace Py
open PySem PySem.Spec PyProof.Rows L2

/-! ### the judgement: a return keeps the names' state -/
structure Ends2 where
  nx : L2.St → Hp → Prop
  rt : V → L2.St → Hp → Prop
  bk : L2.St → Hp → Prop
  ct : L2.St → Hp → Prop
abbrev TS2 := Ends2 → L2.St → Hp → Prop
def Ends2.noRt (D : Ends2) : L2.Ends := { nx := D.nx, rt := fun _ _ => False, bk := D.bk, ct := D.ct }
def SP2 (X : Cx) (pins : List (Addr × Obj)) (D : Ends2) (f : Flow) (s' : Shared) : Prop := match f with
  | .next => ∃ σ H, Inv X pins σ H s' ∧ D.nx σ H
  | .brk => ∃ σ H, Inv X pins σ H s' ∧ D.bk σ H
  | .cont => ∃ σ H, Inv X pins σ H s' ∧ D.ct σ H
  | .ret u => ∃ v σ H, Inv X pins σ H s' ∧ RelV v u ∧ D.rt v σ H
structure QS (X : Cx) (st : Stmt) (t : TS2) : Prop where
  run : ∀ (pins : List (Addr × Obj)) (s : Shared) (σ : L2.St) (H : Hp) (D : Ends2), Inv X pins σ H s → t D σ H → wpAny (model X.prog X.w) X.A (exec st X.env) (SP2 X pins D) X.xe s
structure QSs (X : Cx) (st : List Stmt) (t : TS2) : Prop where
  run : ∀ (pins : List (Addr × Obj)) (s : Shared) (σ : L2.St) (H : Hp) (D : Ends2), Inv X pins σ H s → t D σ H → wpAny (model X.prog X.w) X.A (execs st X.env) (SP2 X pins D) X.xe s
section
variable {X : Cx} {st : Stmt} {sts : List Stmt} {pos : Pos} {e c : PySem.Expr}
theorem SP2.of {pins : List (Addr × Obj)} {D : Ends2} {f : Flow} {s' : Shared} (h : SP X pins D.noRt f s') : SP2 X pins D f s' := by
  cases f with
  | ret v => obtain ⟨_, _, _, _, _, z⟩ := h; exact z.elim
  | _ => exact h
theorem SP2.to {pins : List (Addr × Obj)} {D : Ends2} (hn : ∀ v σ H, ¬ D.rt v σ H) {f : Flow} {s' : Shared} (h : SP2 X pins D f s') : SP X pins D.noRt f s' := by
  cases f with
  | ret v => obtain ⟨_, _, _, _, _, z⟩ := h; exact absurd z (hn _ _ _)
  | _ => exact h
theorem qs_of {t : TS} {t2 : TS2} (h : PS X st t) (w : ∀ D σ H, t2 D σ H → t D.noRt σ H) : QS X st t2 := ⟨fun pins s σ H D I q => thn (h.run pins s σ H _ I (w D σ H q)) fun _ _ z => SP2.of z⟩
theorem QS.weak {t t' : TS2} (h : QS X st t) (w : ∀ D σ H, t' D σ H → t D σ H) : QS X st t' := ⟨fun pins s σ H D I q => h.run pins s σ H D I (w D σ H q)⟩
theorem QSs.weak {t t' : TS2} (h : QSs X sts t) (w : ∀ D σ H, t' D σ H → t D σ H) : QSs X sts t' := ⟨fun pins s σ H D I q => h.run pins s σ H D I (w D σ H q)⟩
theorem qss_nil : QSs X [] fun D σ H => D.nx σ H := ⟨fun _ _ σ H _ I h => wpAny_execs_nil ⟨σ, H, I, h⟩⟩
theorem qss_cons {t u : TS2} (h1 : QS X st t) (h2 : QSs X sts u) : QSs X (st :: sts) fun D σ H => t { D with nx := fun σ H => u D σ H } σ H := by
  refine ⟨fun pins s σ H D I h => wpAny_execs_cons (thn (h1.run pins s σ H _ I h) fun f s1 q => ?_)⟩
  cases f with
  | next =>
    obtain ⟨σ1, H1, I1, q1⟩ := q
    exact h2.run pins s1 σ1 H1 D I1 q1
  | _ => exact q
theorem qs_ret {te : TE} (he : PE X e te) : QS X (.Return (some e) pos) fun D σ H => te σ H fun v H1 => D.rt v σ H1 :=
  ⟨fun pins s σ H D I h => wpAny_Return_some (thn (he.run pins s σ H _ I h) fun _ _ ⟨x, H1, I1, r1, q1⟩ => ⟨x, σ, H1, I1, r1, q1⟩)⟩
theorem qs_retN : QS X (.Return none pos) fun D σ H => D.rt .non σ H := ⟨fun _ _ σ H _ I h => wpAny_Return_none ⟨.non, σ, H, I, rfl, h⟩⟩
theorem qs_if {a b : List Stmt} {tc : TT} {t u : TS2} (hc : PT X c tc) (ha : QSs X a t) (hb : QSs X b u) : QS X (.If c a b pos) fun D σ H => tc σ H fun k H1 => if k = true then t D σ H1 else u D σ H1 := by
  refine ⟨fun pins s σ H D I h => wpAny_If (thn (hc.run pins s σ H _ I h) fun k s1 ⟨H1, I1, q1⟩ => ?_)⟩
  cases k with
  | true => exact ha.run pins s1 σ H1 D I1 q1
  | false => exact hb.run pins s1 σ H1 D I1 q1
end

/-! ### what a run of statements wants -/
section
variable (T : Tb) (X : Cx) (tl : List (Addr × Str)) (own : List Nat)
def RunS (W : WX) (D : Ends2) (r : RS) (ρ : List Addr) (h : OHeap) (H : Hp) : Prop :=
  match r with
  | .nx fr h' => ∀ ρ' H' σ', Ext X.K own ρ h H ρ' h' H' → HR T X.K tl own ρ' h' H' → EnvR T X own ρ' h' H' fr σ' → D.nx σ' H'
  | .bk fr h' => ∀ ρ' H' σ', Ext X.K own ρ h H ρ' h' H' → HR T X.K tl own ρ' h' H' → EnvR T X own ρ' h' H' fr σ' → D.bk σ' H'
  | .ct fr h' => ∀ ρ' H' σ', Ext X.K own ρ h H ρ' h' H' → HR T X.K tl own ρ' h' H' → EnvR T X own ρ' h' H' fr σ' → D.ct σ' H'
  | .rt v fr h' => ∀ ρ' H' σ' y, Ext X.K own ρ h H ρ' h' H' → HR T X.K tl own ρ' h' H' → EnvR T X own ρ' h' H' fr σ' → VR T X.K ρ' H' v y → D.rt y σ' H'
  | .ex e fr h' => ∀ ρ' H' σ' p c fs, Ext X.K own ρ h H ρ' h' H' → HR T X.K tl own ρ' h' H' → EnvR T X own ρ' h' H' fr σ' → h'.get e = some (.exc c fs) → ρ'[e]? = some p → W (.ref (cAdr T X.K c)) (some p) σ' H'
  | .no => False
def tS (W : WX) (ev : Py.Frame → OHeap → RS) : TS2 := fun D σ H => ∃ ρ h fr, HR T X.K tl own ρ h H ∧ EnvR T X own ρ h H fr σ ∧ RunS T X tl own W D (ev fr h) ρ h H
def tG (W : WX) (av : PV → Py.Frame → OHeap → RS) : TG := fun v σ H Q => ∃ x ρ h fr, HR T X.K tl own ρ h H ∧ EnvR T X own ρ h H fr σ ∧ VR T X.K ρ H x v ∧ RunS T X tl own W ⟨Q, fun _ _ _ => False, fun _ _ => False, fun _ _ => False⟩ (av x fr h) ρ h H
def tGs (W : WX) (av : List PV → Py.Frame → OHeap → RS) : TGs := fun vs σ H Q => ∃ xs ρ h fr, HR T X.K tl own ρ h H ∧ EnvR T X own ρ h H fr σ ∧ VRs T X.K ρ H xs vs ∧ RunS T X tl own W ⟨Q, fun _ _ _ => False, fun _ _ => False, fun _ _ => False⟩ (av xs fr h) ρ h H
end
section
variable {T : Tb} {X : Cx} {tl : List (Addr × Str)} {own : List Nat} {W : WX} {σ : L2.St} {ρ ρ' : List Addr} {h h' : OHeap} {H H' : Hp} {fr : Py.Frame} {K : PySem.W.Frag} {pins : List (Addr × Obj)} {s : Shared} {mg : Str → Option Value} {D : Ends2}
variable {a b c : PySem.Expr} {ea eb ec : OHeap → R PV} {pos p : Pos} {es : List PySem.Expr} {eas : OHeap → R (List PV)}
theorem RunS.at {r : RS} (e : Ext X.K own ρ h H ρ' h' H') (q : RunS T X tl own W D r ρ h H) : RunS T X tl own W D r ρ' h' H' := by
  cases r with
  | nx fr h1 => exact fun ρ1 H1 σ1 e1 => q ρ1 H1 σ1 (e.tr e1)
  | bk fr h1 => exact fun ρ1 H1 σ1 e1 => q ρ1 H1 σ1 (e.tr e1)
  | ct fr h1 => exact fun ρ1 H1 σ1 e1 => q ρ1 H1 σ1 (e.tr e1)
  | rt v fr h1 => exact fun ρ1 H1 σ1 y e1 => q ρ1 H1 σ1 y (e.tr e1)
  | ex e0 fr h1 => exact fun ρ1 H1 σ1 p c fs e1 => q ρ1 H1 σ1 p c fs (e.tr e1)
  | no => exact q
theorem RunS.imp {D' : Ends2} {r : RS} (q : RunS T X tl own W D r ρ h H) (h1 : ∀ σ H, D.nx σ H → D'.nx σ H) (h2 : ∀ v σ H, D.rt v σ H → D'.rt v σ H) (h3 : ∀ σ H, D.bk σ H → D'.bk σ H) (h4 : ∀ σ H, D.ct σ H → D'.ct σ H) : RunS T X tl own W D' r ρ h H := by
  cases r with
  | nx fr h1' => exact fun ρ1 H1 σ1 e1 R E => h1 _ _ (q ρ1 H1 σ1 e1 R E)
  | bk fr h1' => exact fun ρ1 H1 σ1 e1 R E => h3 _ _ (q ρ1 H1 σ1 e1 R E)
  | ct fr h1' => exact fun ρ1 H1 σ1 e1 R E => h4 _ _ (q ρ1 H1 σ1 e1 R E)
  | rt v fr h1' => exact fun ρ1 H1 σ1 y e1 R E ry => h2 _ _ _ (q ρ1 H1 σ1 y e1 R E ry)
  | ex e0 fr h1' => exact q
  | no => exact q
theorem Ext.e (e : Ext X.K [] ρ h H ρ' h' H') : Ext X.K own ρ h H ρ' h' H' := e.up fun _ z => by cases z
/-- an expression first -/
theorem toS {k : PV → OHeap → RS} (R : HR T X.K tl own ρ h H) (Ev : EnvR T X own ρ h H fr σ) (q : RunS T X tl own W D ((ea h).toS fr k) ρ h H)
    {Q : VK} (f : ∀ x ρ' h' H' v, Ext X.K [] ρ h H ρ' h' H' → HR T X.K tl own ρ' h' H' → EnvR T X own ρ' h' H' fr σ → VT T X ρ' h' H' x v → RunS T X tl own W D (k x h') ρ' h' H' → Q v H') : tE T X tl own W fr ea σ H Q := by
  refine ⟨ρ, h, R, Ev, ?_⟩
  cases e : ea h with
  | ok x h1 =>
    rw [e] at q
    intro ρ1 H1 e1 R1 v rv
    have q : RunS T X tl own W D (k x h1) ρ h H := q
    exact f x ρ1 h1 H1 v e1 R1 (Ev.ext e1) rv (q.at e1.e)
  | ex x h1 =>
    rw [e] at q
    intro ρ1 H1 p c fs e1 R1 hg hr
    exact q ρ1 H1 σ p c fs e1.e R1 (Ev.ext e1) hg hr
  | no => rw [e] at q; exact q
theorem toSB {k : PV → OHeap → RS} (R : HR T X.K tl own ρ h H) (Ev : EnvR T X own ρ h H fr σ) (q : RunS T X tl own W D ((ea h).toS fr k) ρ h H)
    {Q : Bool → Hp → Prop} (f : ∀ x ρ' h' H', Ext X.K [] ρ h H ρ' h' H' → HR T X.K tl own ρ' h' H' → EnvR T X own ρ' h' H' fr σ → RunS T X tl own W D (k x h') ρ' h' H' → ∃ b, truth h' x = some b ∧ Q b H') : tB T X tl own W fr ea σ H Q := by
  refine ⟨ρ, h, R, Ev, ?_⟩
  cases e : ea h with
  | ok x h1 =>
    rw [e] at q
    intro ρ1 H1 e1 R1
    have q : RunS T X tl own W D (k x h1) ρ h H := q
    exact f x ρ1 h1 H1 e1 R1 (Ev.ext e1) (q.at e1.e)
  | ex x h1 =>
    rw [e] at q
    intro ρ1 H1 p c fs e1 R1 hg hr
    exact q ρ1 H1 σ p c fs e1.e R1 (Ev.ext e1) hg hr
  | no => rw [e] at q; exact q

/-! ### names -/
def LocX (X : Cx) (x : Str) : Prop := Loc X.env.scope x ∧ (X.fn x = true ∨ X.env.scope.names.lookup x = some .local)
/-- what the context bears (of X.Ok and more) -/
structure CxN (X : Cx) : Prop where
  nd : X.N.Nodup
  inj : ∀ x y c, X.env.cells.lookup x = some c → X.env.cells.lookup y = some c → x = y
theorem HR.setCell {a : Nat} {v w : Option PV} (R : HR T K tl own ρ h H) (ha : a ∈ own) (e : h.get a = some (.cell v)) : HR T K tl own ρ (h.set a (.cell w)) H := by
  have hl := OHeap.get_lt e
  have lo : ∀ {o : HObj}, (h.set a (.cell w)).get a = some o → loose own a o := fun {o} z => by
    rw [OHeap.get_set hl, if_pos rfl] at z
    cases z
    exact ha
  refine ⟨R.len, fun b p q => ?_, fun b c o o' p e1 e2 n1 n2 r1 r2 => ?_, R.tab⟩
  · by_cases hb : b = a
    · subst hb
      exact ⟨.cell w, by rw [OHeap.get_set hl, if_pos rfl], Or.inl ha⟩
    · obtain ⟨o, e1, r⟩ := R.obj b p q
      exact ⟨o, by rw [OHeap.get_set hl, if_neg hb]; exact e1, r⟩
  · have hb : b ≠ a := fun z => n1 (by subst z; exact lo e1)
    have hc : c ≠ a := fun z => n2 (by subst z; exact lo e2)
    rw [OHeap.get_set hl, if_neg hb] at e1
    rw [OHeap.get_set hl, if_neg hc] at e2
    exact R.nd b c o o' p e1 e2 n1 n2 r1 r2
theorem Ext.setCell {a : Nat} {v w : Option PV} (ha : a ∈ own) (e : h.get a = some (.cell v)) : Ext K own ρ h H ρ (h.set a (.cell w)) H :=
  ⟨List.prefix_refl _, fun _ _ r => r, fun b o n e' _ => by
    have : b ≠ a := fun z => n (by rw [z]; exact ha)
    rw [OHeap.get_set (OHeap.get_lt e), if_neg this]
    exact e'⟩
/-- a cell is written: nothing else moves -/
theorem VT.setCell {a : Nat} {v w : Option PV} (e : h.get a = some (.cell v)) {x : PV} {y : V} (r : VT T X ρ h H x y) : VT T X ρ (h.set a (.cell w)) H x y := by
  rcases r with r | ⟨hc, b, e1, oe, p, c, fs, ex, ev, hp, hg, hr⟩
  · exact .inl r
  · refine .inr ⟨hc, b, e1, oe, p, c, fs, ex, ev, hp, ?_, hr⟩
    have : b ≠ a := fun z => by subst z; rw [e] at hg; cases hg
    rw [OHeap.get_set (OHeap.get_lt e), if_neg this]
    exact hg
theorem put_ok (N : CxN X) {i : Nat} {x : Str} (hi : X.N[i]? = some x) (hx : Loc X.env.scope x) {v : PV} {y : V} {fr' : Py.Frame} (R : HR T X.K tl own ρ h H) (Ev : EnvR T X own ρ h H fr σ) (rv : VT T X ρ h H v y) (e : fput fr i v h = some (fr', h')) :
    Ext X.K own ρ h H ρ h' H ∧ HR T X.K tl own ρ h' H ∧ EnvR T X own ρ h' H fr' (σ.set i (some y)) := by
  have hv : Vis X.env.scope x := hx.elim .inl fun z => .inr (.inl z)
  have hil : i < σ.length := by rw [Ev.len]; exact (List.getElem?_eq_some_iff.mp hi).1
  have ss : (σ.set i (some y))[i]? = some (some y) := List.getElem?_set_self hil
  have so : ∀ {j : Nat}, j ≠ i → (σ.set i (some y))[j]? = σ[j]? := fun {j} n => List.getElem?_set_ne (Ne.symm n)
  unfold fput at e
  split at e
  · rename_i a ef
    split at e
    · rename_i hc
      cases e
      obtain ⟨ho, hk, c, w, h1, h2, h3, h4⟩ : SlotR T X own ρ h H σ i x (some (.c a)) := by rw [← ef]; exact Ev.slot i x hi hv
      refine ⟨Ext.setCell ho h3, R.setCell ho h3, ⟨fun j n hj hn => ?_, by rw [List.length_set]; exact Ev.len, Ev.dif, fun b hb => ?_⟩⟩
      · have z := Ev.slot j n hj hn
        cases q : fr[j]? with
        | none => exact True.intro
        | some sl =>
          rw [q] at z
          cases sl with
          | n => exact True.intro
          | v u =>
            obtain ⟨t, e1, e2⟩ := z
            have : j ≠ i := fun z => by subst z; rw [ef] at q; cases q
            exact ⟨t, by rw [so this]; exact e1, e2.setCell h3⟩
          | c b =>
            obtain ⟨ho', hk', c', w', g1, g2, g3, g4⟩ := z
            by_cases hb : b = a
            · subst hb
              rw [h2] at g2
              cases g2
              have en := N.inj _ _ _ h1 g1
              subst en
              have ej : j = i := nodup_ix N.nd hj hi
              subst ej
              exact ⟨ho, hk, c, some v, h1, h2, by rw [OHeap.get_set (OHeap.get_lt h3), if_pos rfl], fun u hu => by cases hu; exact ⟨y, ss, rv.cl hc⟩⟩
            · have nj : j ≠ i := fun z => by
                subst z
                rw [ef] at q
                cases q
                exact hb rfl
              exact ⟨ho', hk', c', w', g1, g2, by rw [OHeap.get_set (OHeap.get_lt h3), if_neg hb]; exact g3, fun u hu => by rw [so nj]; exact g4 u hu⟩
      · obtain ⟨c', w', g1, g2, g3, g4, g5⟩ := Ev.cel b hb
        by_cases hba : b = a
        · subst hba
          rw [h2] at g1
          cases g1
          exact ⟨c, some v, h2, g2, g3, by rw [OHeap.get_set (OHeap.get_lt h3), if_pos rfl], .inl ⟨i, x, hi, hv, hk, h1, ef, fun u hu => by cases hu; exact ⟨y, ss, rv.cl hc⟩⟩⟩
        · refine ⟨c', w', g1, g2, g3, by rw [OHeap.get_set (OHeap.get_lt h3), if_neg hba]; exact g4, ?_⟩
          rcases g5 with ⟨j, n, k1, k2, k3, k4, k5, k6⟩ | g5
          · have nj : j ≠ i := fun z => by
              subst z
              rw [ef] at k5
              cases k5
              exact hba rfl
            exact .inl ⟨j, n, k1, k2, k3, k4, k5, fun u hu => by rw [so nj]; exact k6 u hu⟩
          · exact .inr g5
    · cases e
  · rename_i sl nc ef
    cases e
    have fil : i < fr.length := (List.getElem?_eq_some_iff.mp ef).1
    refine ⟨Ext.refl, R, ⟨fun j n hj hn => ?_, by rw [List.length_set]; exact Ev.len, Ev.dif, fun b hb => ?_⟩⟩
    · by_cases hji : j = i
      · subst hji
        rw [List.getElem?_set_self fil]
        exact ⟨y, ss, rv⟩
      · rw [List.getElem?_set_ne (Ne.symm hji)]
        have z := Ev.slot j n hj hn
        cases q : fr[j]? with
        | none => exact True.intro
        | some sl =>
          rw [q] at z
          cases sl with
          | n => exact True.intro
          | v u =>
            obtain ⟨t, e1, e2⟩ := z
            exact ⟨t, by rw [so hji]; exact e1, e2⟩
          | c b =>
            obtain ⟨ho', hk', c', w', g1, g2, g3, g4⟩ := z
            exact ⟨ho', hk', c', w', g1, g2, g3, fun u hu => by rw [so hji]; exact g4 u hu⟩
    · obtain ⟨c', w', g1, g2, g3, g4, g5⟩ := Ev.cel b hb
      refine ⟨c', w', g1, g2, g3, g4, ?_⟩
      rcases g5 with ⟨j, n, k1, k2, k3, k4, k5, k6⟩ | g5
      · have nj : j ≠ i := fun z => by
          subst z
          rw [ef] at k5
          cases k5
          exact nc _ rfl
        exact .inl ⟨j, n, k1, k2, k3, k4, by rw [List.getElem?_set_ne (Ne.symm nj)]; exact k5, fun u hu => by rw [so nj]; exact k6 u hu⟩
      · exact .inr g5
  · cases e
end
end Py

/-! Targets; simple statements. -/
set_option Elab.async false
set_option linter.all false
set_option maxRecDepth 100000
noncomputable section
namespace Py
open PySem PySem.Spec PyProof.Rows L2
section
variable {T : Tb} {X : Cx} {tl : List (Addr × Str)} {own : List Nat} {W : WX} {σ : L2.St} {ρ ρ' : List Addr} {h h' : OHeap} {H H' : Hp} {fr : Py.Frame} {K : PySem.W.Frag} {pins : List (Addr × Obj)} {s : Shared} {mg : Str → Option Value} {D : Ends2}
variable {a b c : PySem.Expr} {ea eb ec : OHeap → R PV} {pos p : Pos} {es : List PySem.Expr} {eas : OHeap → R (List PV)}
abbrev FE := Py.Frame → OHeap → R PV
abbrev FEs := Py.Frame → OHeap → R (List PV)
abbrev AV := PV → Py.Frame → OHeap → RS
abbrev AVs := List PV → Py.Frame → OHeap → RS
def nameA (i : Nat) : AV := fun v fr h => (match fput fr i v h with
    | some (fr, h) => .nx fr h
    | none => .no)
theorem sg_name (N : CxN X) {i : Nat} {x : Str} (hi : X.N[i]? = some x) (hx : LocX X x) : PG X (.Name x pos) (tG T X tl own W (nameA i)) := by
  refine ⟨fun pins s σ H v u Q I r q => (pg_name N.nd hi hx.1 hx.2).run pins s σ H v u Q I r ?_⟩
  obtain ⟨x', ρ, h, fr, R, Ev, rv, q⟩ := q
  unfold nameA at q
  split at q
  · rename_i fr' h' e
    obtain ⟨e1, e2, e3⟩ := put_ok N hi hx.1 R Ev (.inl rv) e
    exact q ρ H _ e1 e2 e3
  · exact q.elim
def nilA : AVs := fun vs fr h => (match vs with
    | [] => .nx fr h
    | _ => .no)
def consA (t : AV) (ts : AVs) : AVs := fun vs fr h => (match vs with
    | x :: xs => (match t x fr h with
      | .nx fr h => ts xs fr h
      | .ex e fr h => .ex e fr h
      | _ => .no)
    | [] => .no)
theorem sgs_nil : PGs X [] (tGs T X tl own W nilA) := by
  refine ⟨fun pins s σ H vs us Q I r q => pgs_nil.run pins s σ H vs us Q I r ?_⟩
  obtain ⟨xs, ρ, h, fr, R, Ev, rv, q⟩ := q
  unfold nilA at q
  split at q
  · exact ⟨rv, q ρ H σ Ext.refl R Ev⟩
  · exact q.elim
theorem assign_cons {e : PySem.Expr} {env : Env} (h : noStar e = true) : (assignEach (e :: es) env).map (·.2) = assign e env :: (assignEach es env).map (·.2) := by
  cases e <;> first | rfl | exact Bool.noConfusion (show false = true from h)
theorem assign_len {env : Env} : ∀ {es : List PySem.Expr}, (assignEach es env).length = es.length
  | [] => rfl
  | e :: es => by
    have : (assignEach (e :: es) env).length = (assignEach es env).length + 1 := by cases e <;> rfl
    rw [this, assign_len, List.length_cons]
theorem assign_find {env : Env} : ∀ {es : List PySem.Expr}, es.all noStar = true → (assignEach es env).findIdx? (·.1) = none
  | [], _ => rfl
  | e :: es, h => by
    rw [List.all_cons, Bool.and_eq_true] at h
    have : assignEach (e :: es) env = (false, assign e env) :: assignEach es env := by
      cases e <;> first | rfl | exact Bool.noConfusion (show false = true from h.1)
    rw [this, List.findIdx?_cons]
    simp only [Bool.false_eq_true, if_false]
    rw [assign_find h.2]
    rfl
theorem sgs_cons {t : AV} {ts : AVs} (hs : noStar a = true) (h1 : PG X a (tG T X tl own W t)) (h2 : PGs X es (tGs T X tl own W ts)) : PGs X (a :: es) (tGs T X tl own W (consA t ts)) := by
  refine ⟨fun pins s σ H vs us Q I r q => (pgs_cons h1 h2 (assign_cons hs)).run pins s σ H vs us Q I r ?_⟩
  obtain ⟨xs, ρ, h, fr, R, Ev, rv, q⟩ := q
  unfold consA at q
  split at q
  · rename_i x xs
    obtain ⟨y, ys, rfl, r1, r2⟩ := rv
    refine ⟨y, ys, rfl, x, ρ, h, fr, R, Ev, r1, ?_⟩
    split at q
    · rename_i fr1 h1 e
      rw [e]
      exact fun ρ1 H1 σ1 e1 R1 Ev1 => ⟨xs, ρ1, h1, fr1, R1, Ev1, r2.ext e1, q.at e1⟩
    · rename_i e
      rw [e]
      exact q
    · exact q.elim
  · exact q.elim
def tupA (n : Nat) (ts : AVs) : AV := fun v fr h => (match v with
    | .tup xs => (match Nat.beq xs.length n with
      | true => ts xs fr h
      | false => .no)
    | _ => .no)
theorem sg_tup {ts : AVs} {n k : Nat} (hc : X.calm = true) (hs : es.all noStar = true) (hl : es.length = n) (h : PGs X es (tGs T X tl own W ts)) :
    PG X (.Tuple es k pos) (tG T X tl own W (tupA n ts)) := by
  refine ⟨fun pins s σ H v u Q I r q => (pg_tup hc h (by rw [assign_len, hl]) (assign_find hs)).run pins s σ H v u Q I r ?_⟩
  obtain ⟨x', ρ, h, fr, R, Ev, rv, q⟩ := q
  unfold tupA at q
  split at q
  · split at q
    · rename_i xs _ hb
      obtain ⟨p, vs, rfl, s1, r1⟩ := rv
      exact ⟨p, vs, rfl, s1, by rw [← r1.length]; exact Nat.eq_of_beq_eq_true hb, xs, ρ, h, fr, R, Ev, r1, q⟩
    · exact q.elim
  · exact q.elim
def subA (fa fi : FE) : AV := fun v fr h => (fa fr h).toS fr fun x h => (fi fr h).toS fr fun y h => (match x, clean v with
    | .obj o, true => (match h.get o, y with
      | some (.lst xs), .int k => (match idx k xs.length with
        | some n => .nx fr (h.set o (.lst (xs.set n v)))
        | none => .no)
      | _, _ => .no)
    | _, _ => .no)
theorem assign_sub {o i : PySem.Expr} {env : Env} (h : plainIxB i = true) : ∀ v, assign (.Subscript o i pos) env v = (do
      let ov ← holding [v] (eval o env)
      let iv ← holding [v, ov] (eval i env)
      standAt pos
      holding [v, ov, iv] (setItem ov iv v)
      release [v, ov, iv] []) := by
  intro v
  cases i <;> first | rfl | exact Bool.noConfusion (show false = true from h)
theorem sg_sub {fa fi : FE} (hi : plainIxB b = true) (ha : ∀ fr, PE X a (tE T X tl own W fr (fa fr))) (hb : ∀ fr, PE X b (tE T X tl own W fr (fi fr))) : PG X (.Subscript a b pos) (tG T X tl own W (subA fa fi)) := by
  refine ⟨fun pins s σ H v u Q I r q => ?_⟩
  obtain ⟨x0, ρ, h, fr, R, Ev, rv, q⟩ := q
  refine (pg_sub (ha fr) (hb fr) set_list (assign_sub hi)).run pins s σ H v u Q I r ?_
  refine toS R Ev q fun x ρ1 h1 H1 o e1 R1 Ev1 ro q1 => toS R1 Ev1 q1 fun y ρ2 h2 H2 i e2 R2 Ev2 ri q2 => ?_
  split at q2
  · rename_i a hc
    split at q2
    · rename_i xs k ex
      split at q2
      · rename_i n en
        obtain ⟨p, rfl, ep⟩ := (ro.later e2).obj
        obtain ⟨vs, hp, rs⟩ := R2.lst ex ep
        have hw : Wr (H2 p) := by rw [hp]; exact True.intro
        have x3 : Ext X.K own ρ2 h2 H2 ρ2 (h2.set a (.lst (xs.set n x0))) (upd H2 p (.lst (vs.set n v))) := Ext.set ex rfl hw
        have R3 := R2.set ex ep (fun z => z) hw (fun z => z) (u := .lst (vs.set n v)) (o := .lst (xs.set n x0)) ⟨_, upd_same, (rs.set (((rv.ext e1).ext e2)) n).ext x3⟩
        have x4 : Ext X.K [] ρ2 h2 H2 ρ2 (h2.set a (.lst (xs.set n x0))) (upd H2 p (.lst (vs.set n v))) := Ext.set ex rfl hw
        exact ⟨p, vs, k, n, rfl, ri.int, hp, by rw [← rs.length]; exact idx_ixN en, q2 _ _ _ x3 R3 (Ev2.ext x4)⟩
      · exact q2.elim
    · exact q2.elim
  · exact q2.elim
end
end Py

/-! Simple statements. -/
set_option Elab.async false
set_option linter.all false
set_option maxRecDepth 100000
noncomputable section
namespace Py
open PySem PySem.Spec PyProof.Rows L2
def notComp : PySem.Expr → Bool
  | .ListComp _ _ _ _ => false
  | .SetComp _ _ _ _ => false
  | .DictComp _ _ _ _ _ => false
  | _ => true
theorem swaps_not {e : PySem.Expr} {t : Option PySem.Expr} {l : Nat} {env : Env} (h : notComp e = true) : swapsWith e t l env = pure false := by
  cases e <;> first | rfl | exact Bool.noConfusion (show false = true from h)
theorem sole_not {tg e : PySem.Expr} {l : Nat} {env : Env} (h : notComp e = true) : swapsWithSole [tg] e l env = pure false := swaps_not h
theorem swaps_attr {e o : PySem.Expr} {f : Str} {p : Pos} {l : Nat} {env : Env} : swapsWith e (some (.Attribute o f p)) l env = pure false := by
  cases e <;> rfl
/-- no stores are exchanged -/
def isLocB (sc : Scope) : PySem.Expr → Bool
  | .Name x _ => decide (sc.names.lookup x = some .local)
  | _ => false
def noSwapB (sc : Scope) : PySem.Expr → PySem.Expr → Bool
  | .Tuple ts _ _, .Tuple _ _ _ => !ts.all (isLocB sc)
  | .List _ _, _ => false
  | _, _ => true
theorem filter_lt {α β : Type} {f : α → Option β} {g : α → Bool} (h : ∀ x, g x = false → f x = none) : ∀ {l : List α}, l.all g = false → (l.filterMap f).length ≠ l.length
  | [], e => nomatch e
  | x :: l, e => by
    have hl : (l.filterMap f).length ≤ l.length := List.length_filterMap_le f l
    rw [List.all_cons] at e
    cases hx : f x with
    | none =>
      rw [List.filterMap_cons_none hx, List.length_cons]
      omega
    | some y =>
      rw [List.filterMap_cons_some hx, List.length_cons, List.length_cons]
      cases gx : g x with
      | false => rw [h x gx] at hx; cases hx
      | true =>
        rw [gx, Bool.true_and] at e
        have := filter_lt h e
        omega
theorem noSwap_ok {tg e : PySem.Expr} {env : Env} (h : noSwapB env.scope tg e = true) : swappedStores [tg] e env = pure none := by
  cases tg with
  | Tuple ts k p =>
    cases e with
    | Tuple vs k2 p2 =>
      have h1 : ts.all (isLocB env.scope) = false := by
        have z : (!ts.all (isLocB env.scope)) = true := h
        simpa using z
      unfold swappedStores
      dsimp only
      split
      · rfl
      · split
        · rfl
        · skip
          have key := filter_lt (f := fun t : PySem.Expr => match t with
            | .Name id pos => if (env.kindOf id == some .local && pos.line == (ts.head?.map (·.pos.line)).getD 0) = true then some id else none
            | _ => none) (g := isLocB env.scope) (fun x hx => by
              cases x with
              | Name id pos =>
                have z : ¬ env.scope.names.lookup id = some .local := of_decide_eq_false hx
                have z2 : (env.kindOf id == some .local) = false := beq_eq_false_iff_ne.mpr z
                dsimp only
                rw [z2, Bool.false_and]
                rfl
              | _ => rfl) h1
          split
          · rfl
          · rename_i hn
            exfalso
            apply hn
            rw [Bool.or_eq_true]
            exact .inl (bne_iff_ne.mpr key)
    | _ => rfl
  | List ts p => exact Bool.noConfusion (show false = true from h)
  | _ => cases e <;> rfl
section
variable {T : Tb} {X : Cx} {tl : List (Addr × Str)} {own : List Nat} {W : WX} {σ : L2.St} {ρ ρ' : List Addr} {h h' : OHeap} {H H' : Hp} {fr : Py.Frame} {K : PySem.W.Frag} {pins : List (Addr × Obj)} {s : Shared} {mg : Str → Option Value} {D : Ends2}
variable {a b c : PySem.Expr} {fa fb fc : FE} {pos p : Pos} {es : List PySem.Expr} {fas : FEs}
def exprS (fa : FE) : Py.Frame → OHeap → RS := fun fr h => (fa fr h).toS fr fun _ h => .nx fr h
theorem ss_expr (hn : notComp a = true) (ha : ∀ fr, PE X a (tE T X tl own W fr (fa fr))) : QS X (.Expr a pos) (tS T X tl own W (exprS fa)) := by
  refine ⟨fun pins s σ H D I q => ?_⟩
  obtain ⟨ρ, h, fr, R, Ev, q⟩ := q
  exact (qs_of (ps_expr (ha fr) (swaps_not hn)) fun _ _ _ z => z).run pins s σ H D I (toS R Ev q fun x ρ1 h1 H1 v e1 R1 Ev1 rv q1 => q1 ρ1 H1 σ Ext.refl R1 Ev1)
def asgS (av : AV) (fa : FE) : Py.Frame → OHeap → RS := fun fr h => (fa fr h).toS fr fun x h => (match clean x with
    | true => av x fr h
    | false => .no)
/-- only its next end -/
def NxOnly (r : RS) : Prop := match r with
  | .nx _ _ => True
  | .ex _ _ _ => True
  | .no => True
  | _ => False
def NxA (av : AV) : Prop := ∀ x fr h, NxOnly (av x fr h)
theorem toTG {av : AV} (n : NxA av) {x : PV} {v : V} (R : HR T X.K tl own ρ h H) (Ev : EnvR T X own ρ h H fr σ) (r : VR T X.K ρ H x v) (q : RunS T X tl own W D (av x fr h) ρ h H) : tG T X tl own W av v σ H D.nx := by
  refine ⟨x, ρ, h, fr, R, Ev, r, ?_⟩
  have z := n x fr h
  cases e : av x fr h with
  | nx fr' h' => rw [e] at q; exact q
  | ex e' fr' h' => rw [e] at q; exact q
  | no => rw [e] at q; exact q
  | _ => rw [e] at z; exact z.elim
theorem ss_asg {tg : PySem.Expr} {av : AV} (n : NxA av) (hn : notComp a = true) (hw : noSwapB X.env.scope tg a = true) (hs : noStar tg = true) (ha : ∀ fr, PE X a (tE T X tl own W fr (fa fr))) (hg : PG X tg (tG T X tl own W av)) :
    QS X (.Assign [tg] a pos) (tS T X tl own W (asgS av fa)) := by
  refine ⟨fun pins s σ H D I q => ?_⟩
  obtain ⟨ρ, h, fr, R, Ev, q⟩ := q
  refine (qs_of (ps_asg (ha fr) hg (sole_not hn) (noSwap_ok hw) (assign_cons hs)) fun _ _ _ z => z).run pins s σ H D I ?_
  refine toS R Ev q fun x ρ1 h1 H1 v e1 R1 Ev1 rv q1 => ?_
  split at q1
  · exact toTG n R1 Ev1 (rv.cl ‹_›) q1
  · exact q1.elim
def fldS (f : Nat) (P : Prog) (fo fa : FE) : Py.Frame → OHeap → RS := fun fr h => (fa fr h).toS fr fun v h => (match clean v with
    | true => (fo fr h).toS fr fun x h => (match x, clean v with
      | .obj o, true => (match h.get o with
        | some (.ins c fs) => (match hasFld P false c f && Nat.blt fs.length 1000 with
          | true => .nx fr (h.set o (.ins c (putN f v fs)))
          | false => .no)
        | _ => .no)
      | _, _ => .no)
    | false => .no)
theorem FR.length : ∀ {fs : List (Nat × PV)} {gs : List (Str × V)}, FR T K ρ H fs gs → fs.length = gs.length
  | [], gs, r => by cases (show gs = [] from r); rfl
  | _ :: _, gs, r => by
    obtain ⟨_, _, q, rfl, _, _, r⟩ := r
    rw [List.length_cons, List.length_cons, FR.length r]
theorem FR.put (nd : T.an.Nodup) {f : Nat} {n : Str} (hn : T.an[f]? = some n) {v : PV} {y : V} (rv : VR T K ρ H v y) : ∀ {fs : List (Nat × PV)} {gs : List (Str × V)}, FR T K ρ H fs gs → FR T K ρ H (putN f v fs) (putF n y gs)
  | [], gs, r => by
    cases (show gs = [] from r)
    exact ⟨n, y, [], rfl, hn, rv, rfl⟩
  | (g, x) :: fs, gs, r => by
    obtain ⟨m, z, q, rfl, hm, r1, r2⟩ := r
    unfold putN putF
    cases hb : Nat.beq g f with
    | true =>
      have : g = f := Nat.eq_of_beq_eq_true hb
      subst this
      rw [hn] at hm
      cases hm
      rw [if_pos rfl]
      exact ⟨n, y, q, rfl, hn, rv, r2⟩
    | false =>
      have hne : ¬ m = n := fun z => by
        subst z
        have : f = g := nodup_ix nd hn hm
        subst this
        rw [Nat.beq_refl] at hb
        cases hb
      rw [if_neg hne]
      exact ⟨m, z, putF n y q, rfl, hm, r1, FR.put nd hn rv r2⟩
theorem ss_fld (F : Fx T X.K X.mg) {f : Nat} {n : Str} {o : PySem.Expr} {fo : FE} {pos' : Pos} (hn : T.an[f]? = some n) (ho : ∀ fr, PE X o (tE T X tl own W fr (fo fr))) (ha : ∀ fr, PE X a (tE T X tl own W fr (fa fr))) :
    QS X (.Assign [.Attribute o n pos'] a pos) (tS T X tl own W (fldS f T.P fo fa)) := by
  refine ⟨fun pins s σ H D I q => ?_⟩
  obtain ⟨ρ, h, fr, R, Ev, q⟩ := q
  refine (qs_of (ps_fld (ho fr) (ha fr) swaps_attr) fun _ _ _ z => z).run pins s σ H D I ?_
  refine toS R Ev q fun x ρ1 h1 H1 v e1 R1 Ev1 rv q1 => ?_
  split at q1
  · rename_i hcl
    refine toS R1 Ev1 q1 fun y ρ2 h2 H2 w e2 R2 Ev2 rw_ q2 => ?_
    split at q2
    · rename_i a' _
      split at q2
      · rename_i c fs ex
        split at q2
        · rename_i hb
          rw [Bool.and_eq_true] at hb
          obtain ⟨Kc, eK, hf, hx⟩ := get_cls hb.1
          obtain ⟨n', hn', na⟩ := F.fld c Kc f eK hf
          rw [hn] at hn'
          cases hn'
          obtain ⟨p, rfl, ep⟩ := rw_.obj
          obtain ⟨dx, fs', hp, rf⟩ := R2.atp ex ep
          have hw : Wr (H2 p) := by rw [hp]; exact True.intro
          have x3 : ∀ {own' : List Nat}, Ext X.K own' ρ2 h2 H2 ρ2 (h2.set a' (.ins c (putN f x fs))) (upd H2 p (.ins (cAdr T X.K c) dx (putF n v fs'))) := Ext.set ex rfl hw
          have rv2 := (rv.cl hcl).ext e2
          have R3 := R2.set ex ep (fun z => z) hw (fun z => z) (u := .ins (cAdr T X.K c) dx (putF n v fs')) (o := .ins c (putN f x fs)) ⟨dx, _, upd_same, FR.mono (x3 (own' := [])).pre (x3 (own' := [])).tup (FR.put F.an hn rv2 rf)⟩
          have hl : fs.length < 1000 := Nat.le_of_ble_eq_true hb.2
          exact ⟨p, _, dx, fs', rfl, hp, F.ins c Kc eK hx, na, by rw [← FR.length rf]; exact hl, q2 _ _ _ x3 R3 (Ev2.ext x3)⟩
        · exact q2.elim
      · exact q2.elim
    · exact q2.elim
  · exact q1.elim
def retS (fa : FE) : Py.Frame → OHeap → RS := fun fr h => (fa fr h).toS fr fun x h => (match clean x with
    | true => .rt x fr h
    | false => .no)
theorem ss_ret (ha : ∀ fr, PE X a (tE T X tl own W fr (fa fr))) : QS X (.Return (some a) pos) (tS T X tl own W (retS fa)) := by
  refine ⟨fun pins s σ H D I q => ?_⟩
  obtain ⟨ρ, h, fr, R, Ev, q⟩ := q
  refine (qs_ret (ha fr)).run pins s σ H D I (toS R Ev q fun x ρ1 h1 H1 v e1 R1 Ev1 rv q1 => ?_)
  split at q1
  · exact q1 ρ1 H1 σ v Ext.refl R1 Ev1 (rv.cl ‹_›)
  · exact q1.elim
theorem ss_retN : QS X (.Return none pos) (tS T X tl own W fun fr h => .rt .non fr h) :=
  qs_retN.weak fun D σ H ⟨ρ, h, fr, R, Ev, q⟩ => q ρ H σ .non Ext.refl R Ev rfl
theorem ss_pass : QS X (.Pass pos) (tS T X tl own W fun fr h => .nx fr h) :=
  (qs_of ps_pass fun _ _ _ z => z).weak fun D σ H ⟨ρ, h, fr, R, Ev, q⟩ => q ρ H σ Ext.refl R Ev
theorem ss_brk : QS X (.Break pos) (tS T X tl own W fun fr h => .bk fr h) :=
  (qs_of ps_break fun _ _ _ z => z).weak fun D σ H ⟨ρ, h, fr, R, Ev, q⟩ => q ρ H σ Ext.refl R Ev
theorem ss_cnt : QS X (.Continue pos) (tS T X tl own W fun fr h => .ct fr h) :=
  (qs_of ps_continue fun _ _ _ z => z).weak fun D σ H ⟨ρ, h, fr, R, Ev, q⟩ => q ρ H σ Ext.refl R Ev
abbrev FS := Py.Frame → OHeap → RS
def iteS (fc : FE) (u v : FS) : FS := fun fr h => (fc fr h).toS fr fun x h => (match truth h x with
    | some true => u fr h
    | some false => v fr h
    | none => .no)
theorem ss_if {A B : List Stmt} {u v : FS} (hc : ∀ fr, PT X c (tB T X tl own W fr (fc fr))) (ha : QSs X A (tS T X tl own W u)) (hb : QSs X B (tS T X tl own W v)) : QS X (.If c A B pos) (tS T X tl own W (iteS fc u v)) := by
  refine ⟨fun pins s σ H D I q => ?_⟩
  obtain ⟨ρ, h, fr, R, Ev, q⟩ := q
  refine (qs_if (hc fr) ha hb).run pins s σ H D I (toSB R Ev q fun x ρ1 h1 H1 e1 R1 Ev1 q1 => ?_)
  split at q1
  · exact ⟨true, ‹_›, by rw [if_pos rfl]; exact ⟨ρ1, h1, fr, R1, Ev1, q1⟩⟩
  · exact ⟨false, ‹_›, by rw [if_neg Bool.false_ne_true]; exact ⟨ρ1, h1, fr, R1, Ev1, q1⟩⟩
  · exact q1.elim
def seqS (u v : FS) : FS := fun fr h => (match u fr h with
    | .nx fr h => v fr h
    | r => r)
theorem ss_nil : QSs X [] (tS T X tl own W fun fr h => .nx fr h) := qss_nil.weak fun D σ H ⟨ρ, h, fr, R, Ev, q⟩ => q ρ H σ Ext.refl R Ev
theorem ss_cons {st : Stmt} {sts : List Stmt} {u v : FS} (h1 : QS X st (tS T X tl own W u)) (h2 : QSs X sts (tS T X tl own W v)) : QSs X (st :: sts) (tS T X tl own W (seqS u v)) := by
  refine (qss_cons h1 h2).weak fun D σ H ⟨ρ, h, fr, R, Ev, q⟩ => ⟨ρ, h, fr, R, Ev, ?_⟩
  unfold seqS at q
  cases e : u fr h with
  | nx fr1 h1 =>
    rw [e] at q
    exact fun ρ1 H1 σ1 e1 R1 Ev1 => ⟨ρ1, h1, fr1, R1, Ev1, RunS.at (r := v fr1 h1) e1 q⟩
  | bk _ _ => rw [e] at q; exact q
  | ct _ _ => rw [e] at q; exact q
  | rt _ _ _ => rw [e] at q; exact q
  | ex _ _ _ => rw [e] at q; exact q
  | no => rw [e] at q; exact q
end
end Py

/-! Loops. -/
set_option Elab.async false
set_option linter.all false
set_option maxRecDepth 100000
noncomputable section
namespace Py
open PySem PySem.Spec PyProof.Rows L2
section
variable {T : Tb} {X : Cx} {tl : List (Addr × Str)} {own : List Nat} {W : WX} {σ : L2.St} {ρ ρ' : List Addr} {h h' : OHeap} {H H' : Hp} {fr : Py.Frame} {K : PySem.W.Frag} {pins : List (Addr × Obj)} {s : Shared} {mg : Str → Option Value} {D : Ends2}
variable {a b c tg : PySem.Expr} {fa fb fc : FE} {ea eb : OHeap → R PV} {pos p : Pos} {es : List PySem.Expr} {fas : FEs}
theorem piW {i : PySem.Expr} {w w' : TI} (h : PI X tg i w) (f : ∀ σ H R, w' σ H R → w σ H R) : PI X tg i w' := ⟨fun pins s σ H R I q => h.run pins s σ H R I (f _ _ _ q)⟩
/-- a list or a tuple is walked -/
def iSeq (K : PySem.W.Frag) (t : TE) : TI := fun σ H R => t σ H fun x H1 => ∃ q, x = .ref q ∧ ((∃ xs, SqL K H1 q xs ∧ R (Itl K q) H1) ∨ ∃ xs, SqT K H1 q xs ∧ R (Itt K q) H1)
theorem pi_seq {l : PySem.Expr} {t : TE} (hl : PE X l t) : PI X tg l (iSeq X.K t) := by
  refine ⟨fun pins s σ H R I hw => thn (hl.run pins s σ H _ I hw) fun v s1 hv => ?_⟩
  obtain ⟨x, H1, J, rx, q, ex, ⟨xs, hs, hR⟩ | ⟨xs, hs, hR⟩⟩ := hv
  · rw [ex] at rx
    obtain rfl : v = Value.ref q := rx
    obtain ⟨its, _, pl, _⟩ := J.list hs
    exact wpAny_pyIter_list pl.isList (pi_one J _ (turn_list q s1.heap.objs.size) ⟨_, Heap.get?_push_size s1.heap rfl, rfl, rfl⟩ hR)
  · rw [ex] at rx
    obtain rfl : v = Value.ref q := rx
    obtain ⟨its, _, pl, _⟩ := J.tuple hs
    exact wpAny_pyIter_tuple (show s1.heap.IsTuple q its.toArray from pl) (pi_one J _ (turn_tuple q s1.heap.objs.size) ⟨_, Heap.get?_push_size s1.heap rfl, rfl, rfl⟩ hR)

/-! ### what is walked -/
def ItR (T : Tb) (K : PySem.W.Frag) (ρ : List Addr) (H : Hp) : ID → It → Prop
  | .one (.l a), J => ∃ p, ρ[a]? = some p ∧ J = Itl K p
  | .one (.t xs), J => ∃ p vs, SqT K H p vs ∧ VRs T K ρ H xs vs ∧ J = Itt K p
  | .rng lo n, J => J = Itr lo n
  | .enm a, J => ∃ p, ρ[a]? = some p ∧ J = Ite K p
theorem ItR.ext {d : ID} {J : It} (e : Ext K own ρ h H ρ' h' H') (r : ItR T K ρ H d J) : ItR T K ρ' H' d J := by
  cases d with
  | one s =>
    cases s with
    | l a => obtain ⟨p, h1, h2⟩ := r; exact ⟨p, pre_get e.pre h1, h2⟩
    | t xs => obtain ⟨p, vs, h1, h2, h3⟩ := r; exact ⟨p, vs, e.tup _ _ h1, h2.ext e, h3⟩
  | rng lo n => exact r
  | enm a => obtain ⟨p, h1, h2⟩ := r; exact ⟨p, pre_get e.pre h1, h2⟩
theorem elems_l (R : HR T K tl own ρ h H) {a : Nat} {p : Addr} {l : List PV} (e : elems h (.obj a) = some l) (q : ρ[a]? = some p) : ∃ vs, SqL K H p vs ∧ VRs T K ρ H l vs := by
  unfold elems at e
  dsimp only at e
  split at e
  · cases e
    rename_i e1
    obtain ⟨vs, h1, r1⟩ := R.lst e1 q
    exact ⟨vs, SqL.of h1, r1⟩
  · cases e
    rename_i e1
    obtain ⟨vs, r1, ⟨o, h1⟩ | h1⟩ := R.atp e1 q
    · exact ⟨vs, .inl (.inr ⟨o, h1⟩), r1⟩
    · refine ⟨vs, ?_, r1⟩
      rcases h1 with (h1 | ⟨_, h1⟩) | h1
      · cases h1
      · cases h1
      · exact .inr h1
  · cases e
/-- a turn -/
theorem it_next (R : HR T K tl own ρ h H) {d : ID} {J : It} (r : ItR T K ρ H d J) {i : Nat} {o : Option PV} (e : next d i h = some o) :
    (o = none → J.stop i H) ∧ ∀ v, o = some v → J.go i H ∧ ∀ x H', J.yld i H x H' → (∀ own, Ext K own ρ h H ρ h H') ∧ HR T K tl own ρ h H' ∧ VR T K ρ H' v x := by
  cases d with
  | one s =>
    cases s with
    | l a =>
      obtain ⟨p, hp, rfl⟩ := r
      unfold next Src.all at e
      dsimp only at e
      split at e
      · rename_i l el
        cases e
        obtain ⟨vs, hs, rs⟩ := elems_l R el hp
        refine ⟨fun z => ⟨vs, hs, by rw [← rs.length]; exact List.getElem?_eq_none_iff.mp z⟩, fun v z => ?_⟩
        obtain ⟨y, ey, ry⟩ := rs.get z
        refine ⟨⟨vs, y, hs, ey⟩, fun x H' ⟨e1, e2⟩ => ?_⟩
        subst e1
        have := e2 vs hs
        rw [ey] at this
        cases this
        exact ⟨fun _ => Ext.refl, R, ry⟩
      · cases e
    | t xs =>
      obtain ⟨p, vs, hs, rs, rfl⟩ := r
      unfold next Src.all at e
      dsimp only at e
      cases e
      refine ⟨fun z => ⟨vs, hs, by rw [← rs.length]; exact List.getElem?_eq_none_iff.mp z⟩, fun v z => ?_⟩
      obtain ⟨y, ey, ry⟩ := rs.get z
      refine ⟨⟨vs, y, hs, ey⟩, fun x H' ⟨e1, e2⟩ => ?_⟩
      subst e1
      have := e2 vs hs
      rw [ey] at this
      cases this
      exact ⟨fun _ => Ext.refl, R, ry⟩
  | rng lo n =>
    cases (show J = Itr lo n from r)
    unfold next at e
    dsimp only at e
    split at e
    · rename_i hb
      cases e
      refine ⟨fun z => (by cases z), fun v z => ?_⟩
      cases z
      refine ⟨Nat.le_of_ble_eq_true hb, fun x H' ⟨e1, e2⟩ => ?_⟩
      subst e1 e2
      exact ⟨fun _ => Ext.refl, R, rfl⟩
    · rename_i hb
      cases e
      refine ⟨fun _ => ?_, fun v z => by cases z⟩
      show n ≤ i
      have : ¬ i < n := fun z => by
        rw [show Nat.blt i n = true from Nat.ble_eq_true_of_le z] at hb
        cases hb
      omega
  | enm a =>
    obtain ⟨p, hp, rfl⟩ := r
    unfold next at e
    dsimp only at e
    split at e
    · rename_i l el
      obtain ⟨vs, hs, rs⟩ := elems_l R el hp
      split at e
      · rename_i v ev
        cases e
        refine ⟨fun z => (by cases z), fun w z => ?_⟩
        cases z
        obtain ⟨y, ey, ry⟩ := rs.get ev
        refine ⟨⟨vs, y, hs, ey⟩, fun x H' ⟨t, x', e1, e2, e3, e4⟩ => ?_⟩
        have := e4 vs hs
        rw [ey] at this
        cases this
        subst e1 e3
        have xx : ∀ own', Ext K own' ρ h H ρ h (upd H t (.tup [.int (i : Nat), y])) := fun own' => Ext.laid e2
        exact ⟨xx, R.laid e2, t, _, rfl, SqT.of upd_same, .int (i : Nat), [y], rfl, rfl, y, [], rfl, ry.ext (xx []), rfl⟩
      · rename_i ev
        cases e
        exact ⟨fun _ => ⟨vs, hs, by rw [← rs.length]; exact List.getElem?_eq_none_iff.mp ev⟩, fun v z => by cases z⟩
    · cases e
/-- the iterable's reading -/
def tI (T : Tb) (X : Cx) (tl : List (Addr × Str)) (own : List Nat) (W : WX) (fr : Py.Frame) (ei : OHeap → R ID) : TI := fun σ H R => ∃ ρ h, HR T X.K tl own ρ h H ∧ EnvR T X own ρ h H fr σ ∧ Run T X tl own W σ (ei h) (fun d ρ' h' H' => ∀ J, ItR T X.K ρ' H' d J → R J H') ρ h H
def seqI (ea : OHeap → R PV) : OHeap → R ID := fun h => (ea h).bind fun x h => (match srcOf h x with
    | some s => .ok (.one s) h
    | none => .no)
theorem si_seq (ha : PE X a (tE T X tl own W fr ea)) : PI X tg a (tI T X tl own W fr (seqI ea)) := by
  refine piW (pi_seq ha) fun σ H Rr ⟨ρ, h, R, Ev, q⟩ => ?_
  refine Run.two R Ev q fun x ρ1 h1 H1 v e1 R1 Ev1 rv q1 => ?_
  split at q1
  · rename_i sr es
    have fin := q1.fin Ext.refl R1
    unfold srcOf at es
    split at es
    · cases es
      obtain ⟨p, vs, rfl, s1, r1⟩ := rv.tup
      exact ⟨p, rfl, .inr ⟨vs, s1, fin _ ⟨p, vs, s1, r1, rfl⟩⟩⟩
    · obtain ⟨p, rfl, ep⟩ := rv.obj
      split at es
      · rename_i e2
        cases es
        obtain ⟨vs, h1, _⟩ := R1.lst e2 ep
        exact ⟨p, rfl, .inl ⟨vs, SqL.of h1, fin _ ⟨p, ep, rfl⟩⟩⟩
      · rename_i l e2
        cases es
        obtain ⟨vs, hs, _⟩ := elems_l R1 (l := l) (by unfold elems; dsimp only; rw [e2]) ep
        exact ⟨p, rfl, .inl ⟨vs, hs, fin _ ⟨p, ep, rfl⟩⟩⟩
      · cases es
    · cases es
  · exact q1.elim
theorem bnd_ok {i : Int} (e : bnd62 i = true) : -(2 ^ 62) ≤ i ∧ i < 2 ^ 62 := by
  have : i.natAbs < 4611686018427387904 := Nat.le_of_ble_eq_true e
  omega
def rng1I (ea : OHeap → R PV) : OHeap → R ID := fun h => (ea h).bind fun x h => (match x with
    | .int j => (match bnd62 j with
      | true => .ok (.rng 0 j.toNat) h
      | false => .no)
    | _ => .no)
theorem si_rng1 (hg : Gl X "range") (hm : X.mg "range" = none) (hs : noStar a = true) (ha : PE X a (tE T X tl own W fr ea)) : PI X tg (.Call (.Name "range" p) [a] [] pos) (tI T X tl own W fr (rng1I ea)) := by
  refine piW (pi_range1 hg hm (pa_cons ha pa_nil (star_cons hs)) (star_cons hs)) fun σ H Rr ⟨ρ, h, R, Ev, q⟩ => ?_
  refine Run.two R Ev q fun x ρ1 h1 H1 v e1 R1 Ev1 rv q1 => ?_
  split at q1
  · split at q1
    · rename_i j _ hb
      exact ⟨j, by rw [rv.int], (bnd_ok hb).1, (bnd_ok hb).2, q1.fin Ext.refl R1 _ rfl⟩
    · exact q1.elim
  · exact q1.elim
def rng2I (ea eb : OHeap → R PV) : OHeap → R ID := fun h => (ea h).bind fun x h => (eb h).bind fun y h => (match x, y with
    | .int i, .int j => (match bnd62 i && bnd62 j with
      | true => .ok (.rng i (j - i).toNat) h
      | false => .no)
    | _, _ => .no)
theorem si_rng2 (hg : Gl X "range") (hm : X.mg "range" = none) (hs : noStar a = true) (hs2 : noStar b = true) (ha : PE X a (tE T X tl own W fr ea)) (hb : PE X b (tE T X tl own W fr eb)) :
    PI X tg (.Call (.Name "range" p) [a, b] [] pos) (tI T X tl own W fr (rng2I ea eb)) := by
  refine piW (pi_range2 hg hm (pa_cons ha (pa_cons hb pa_nil (star_cons hs2)) (star_cons hs)) (by rw [star_cons hs, star_cons hs2]; rfl) (star_cons hs2)) fun σ H Rr ⟨ρ, h, R, Ev, q⟩ => ?_
  refine Run.two R Ev q fun x ρ1 h1 H1 v e1 R1 Ev1 rv q1 => Run.two R1 Ev1 q1 fun y ρ2 h2 H2 w e2 R2 Ev2 rw_ q2 => ?_
  split at q2
  · split at q2
    · rename_i i j _ hb
      rw [Bool.and_eq_true] at hb
      exact ⟨i, j, by rw [rv.int, rw_.int], ⟨(bnd_ok hb.1).1, (bnd_ok hb.1).2, (bnd_ok hb.2).1, (bnd_ok hb.2).2⟩, q2.fin Ext.refl R2 _ rfl⟩
    · exact q2.elim
  · exact q2.elim
def enmI (ea : OHeap → R PV) : OHeap → R ID := fun h => (ea h).bind fun x h => (match srcOf h x with
    | some (.l a) => .ok (.enm a) h
    | _ => .no)
theorem si_enm {elts : List PySem.Expr} {kk : Nat} {tpos : Pos} (hg : Gl X "enumerate") (hm : X.mg "enumerate" = none) (hs : noStar a = true) (ha : PE X a (tE T X tl own W fr ea)) : PI X (.Tuple elts kk tpos) (.Call (.Name "enumerate" p) [a] [] pos) (tI T X tl own W fr (enmI ea)) := by
  refine piW (pi_enum hg hm (pa_cons ha pa_nil (star_cons hs)) (star_cons hs)) fun σ H Rr ⟨ρ, h, R, Ev, q⟩ => ?_
  refine Run.two R Ev q fun x ρ1 h1 H1 v e1 R1 Ev1 rv q1 => ?_
  split at q1
  · rename_i _ a' es
    have fin := q1.fin Ext.refl R1
    unfold srcOf at es
    split at es
    · cases es
    · obtain ⟨p, rfl, ep⟩ := rv.obj
      split at es
      · rename_i e2
        cases es
        obtain ⟨vs, h1, _⟩ := R1.lst e2 ep
        exact ⟨p, vs, rfl, SqL.of h1, fin _ ⟨p, ep, rfl⟩⟩
      · rename_i l e2
        cases es
        obtain ⟨vs, hs, _⟩ := elems_l R1 (l := l) (by unfold elems; dsimp only; rw [e2]) ep
        exact ⟨p, vs, rfl, hs, fin _ ⟨p, ep, rfl⟩⟩
      · cases es
    · cases es
  · exact q1.elim

/-! ### for -/
abbrev FI := Py.Frame → OHeap → R ID
def Ends2.rtNo (D : Ends2) : Prop := ∀ v σ H, ¬ D.rt v σ H
theorem pss_of {sts : List Stmt} {t2 : TS2} (h : QSs X sts t2) : PSs X sts fun D σ H => t2 ⟨D.nx, fun _ _ _ => False, D.bk, D.ct⟩ σ H :=
  ⟨fun pins s σ H D I q => thn (h.run pins s σ H _ I q) fun f s1 z => by
    cases f with
    | ret v => obtain ⟨_, _, _, _, _, z⟩ := z; exact z.elim
    | next => exact z
    | brk => exact z
    | cont => exact z⟩
def forS (av : AV) (fi : FI) (bs : FS) : FS := fun fr h => (fi fr h).toS fr fun d h => forL av bs d turns 0 fr h
def notSet : PySem.Expr → Bool
  | .Set _ _ _ => false
  | _ => true
theorem folded_not {e : PySem.Expr} {env : Env} (h : notSet e = true) : ∀ x, foldedSetIterable e env x = pure x := by
  intro x
  cases e <;> first | rfl | exact Bool.noConfusion (show false = true from h)
theorem toSI {ei : OHeap → R ID} {k : ID → OHeap → RS} (R : HR T X.K tl own ρ h H) (Ev : EnvR T X own ρ h H fr σ) (q : RunS T X tl own W D ((ei h).toS fr k) ρ h H)
    {Q : It → Hp → Prop} (f : ∀ x ρ' h' H' J, Ext X.K [] ρ h H ρ' h' H' → HR T X.K tl own ρ' h' H' → EnvR T X own ρ' h' H' fr σ → ItR T X.K ρ' H' x J → RunS T X tl own W D (k x h') ρ' h' H' → Q J H') : tI T X tl own W fr ei σ H Q := by
  refine ⟨ρ, h, R, Ev, ?_⟩
  cases e : ei h with
  | ok x h1 =>
    rw [e] at q
    intro ρ1 H1 e1 R1 J rJ
    have q : RunS T X tl own W D (k x h1) ρ h H := q
    exact f x ρ1 h1 H1 J e1 R1 (Ev.ext e1) rJ (q.at e1.e)
  | ex x h1 =>
    rw [e] at q
    intro ρ1 H1 p c fs e1 R1 hg hr
    exact q ρ1 H1 σ p c fs e1.e R1 (Ev.ext e1) hg hr
  | no => rw [e] at q; exact q
theorem ss_for {iter : PySem.Expr} {body : List Stmt} {av : AV} {fi : FI} {bs : FS} (hp : PassesOwn (model X.prog X.w) X.A X.env X.xe) (hc : X.calm = true) (hn : notSet iter = true)
    (hi : ∀ fr, PI X tg iter (tI T X tl own W fr (fi fr))) (hg : PG X tg (tG T X tl own W av)) (hb : QSs X body (tS T X tl own W bs)) : QS X (.For tg iter body [] pos) (tS T X tl own W (forS av fi bs)) := by
  refine ⟨fun pins s σ H D I q => ?_⟩
  obtain ⟨ρ, h, fr, R, Ev, q⟩ := q
  refine (qs_of (ps_for hp hc (hi fr) hg (pss_of hb) (folded_not hn)) fun _ _ _ z => z).run pins s σ H D I ?_
  refine toSI R Ev q fun d ρ0 h0 H0 J e0 R0 Ev0 rJ q0 => ?_
  refine ⟨fun i m σ H => ∃ ρ h fr, HR T X.K tl own ρ h H ∧ EnvR T X own ρ h H fr σ ∧ ItR T X.K ρ H d J ∧ RunS T X tl own W D (forL av bs d m i fr h) ρ h H, ⟨turns, ρ0, h0, fr, R0, Ev0, rJ, q0⟩, fun i m σ1 H1 ⟨ρ1, h1, fr1, R1, Ev1, rJ1, q1⟩ => ?_⟩
  cases m with
  | zero => exact q1.elim
  | succ f =>
    unfold forL at q1
    split at q1
    · exact q1.elim
    · rename_i e
      exact .inl ⟨(it_next R1 rJ1 e).1 rfl, q1 ρ1 H1 σ1 Ext.refl R1 Ev1⟩
    · rename_i v e
      obtain ⟨go, yl⟩ := (it_next R1 rJ1 e).2 v rfl
      refine .inr ⟨go, fun σ2 H2 => ∃ ρ h fr, HR T X.K tl own ρ h H2 ∧ EnvR T X own ρ h H2 fr σ2 ∧ ItR T X.K ρ H2 d J ∧ RunS T X tl own W D (forL av bs d f (i + 1) fr h) ρ h H2, fun σ2 H2 z => ⟨f, Nat.lt_succ_self f, z⟩, fun x H2 hy => ?_⟩
      obtain ⟨x2, R2, rv⟩ := yl x H2 hy
      have Ev2 := Ev1.ext (x2 [])
      have rJ2 := rJ1.ext (x2 [])
      have q2 := q1.at (x2 own)
      refine ⟨v, ρ1, h1, fr1, R2, Ev2, rv, ?_⟩
      cases ea : av v fr1 h1 with
      | nx fr3 h3 =>
        rw [ea] at q2
        intro ρ3 H3 σ3 e3 R3 Ev3
        refine ⟨ρ3, h3, fr3, R3, Ev3, ?_⟩
        have q3 := q2.at e3
        have rJ3 := rJ2.ext e3
        dsimp only at q3
        cases eb : bs fr3 h3 with
        | nx fr4 h4 =>
          rw [eb] at q3
          exact fun ρ4 H4 σ4 e4 R4 Ev4 => ⟨ρ4, h4, fr4, R4, Ev4, rJ3.ext e4, q3.at e4⟩
        | ct fr4 h4 =>
          rw [eb] at q3
          exact fun ρ4 H4 σ4 e4 R4 Ev4 => ⟨ρ4, h4, fr4, R4, Ev4, rJ3.ext e4, q3.at e4⟩
        | bk fr4 h4 => rw [eb] at q3; exact q3
        | ex e' fr4 h4 => rw [eb] at q3; exact q3
        | rt v' fr4 h4 => rw [eb] at q3; exact q3.elim
        | no => rw [eb] at q3; exact q3.elim
      | ex e' fr3 h3 => rw [ea] at q2; exact q2
      | bk fr3 h3 => rw [ea] at q2; exact q2.elim
      | ct fr3 h3 => rw [ea] at q2; exact q2.elim
      | rt _ _ _ => rw [ea] at q2; exact q2.elim
      | no => rw [ea] at q2; exact q2.elim
end
end Py

/-! Own cells: tracked for a callee, untracked behind it. -/
set_option Elab.async false
set_option linter.all false
set_option maxRecDepth 100000
noncomputable section
namespace Py
open PySem PySem.Spec PyProof.Rows L2
def isC (ρ : List Addr) (own : List Nat) (b : Addr) : Prop := ∃ a ∈ own, ρ[a]? = some b
open Classical in
/-- the cells are known objects -/
noncomputable def trkH (g : Heap) (ρ : List Addr) (own : List Nat) (H : Hp) : Hp := fun b => if isC ρ own b then (g.get? b).map (fun o => .frz o (.own 0)) else H b
open Classical in
noncomputable def untH (ρ : List Addr) (own : List Nat) (H : Hp) : Hp := fun b => if isC ρ own b then none else H b
section
variable {T : Tb} {X : Cx} {tl : List (Addr × Str)} {own : List Nat} {W : WX} {σ : L2.St} {ρ ρ' ρ1 : List Addr} {h h' h1 : OHeap} {H H' H1 : Hp} {fr : Py.Frame} {K : PySem.W.Frag} {pins : List (Addr × Obj)} {s s1 : Shared} {g : Heap}
theorem trk_at {b : Addr} {o : Obj} (c : isC ρ own b) (e : g.get? b = some o) : trkH g ρ own H b = some (.frz o (.own 0)) := by
  unfold trkH; rw [if_pos c, e]; rfl
theorem trk_ne {b : Addr} (c : ¬ isC ρ own b) : trkH g ρ own H b = H b := by unfold trkH; rw [if_neg c]
theorem unt_at {b : Addr} (c : isC ρ own b) : untH ρ own H b = none := by unfold untH; rw [if_pos c]
theorem unt_ne {b : Addr} (c : ¬ isC ρ own b) : untH ρ own H b = H b := by unfold untH; rw [if_neg c]
/-- what the frame says of its cells, at a state -/
structure CelS (T : Tb) (K : PySem.W.Frag) (own : List Nat) (ρ : List Addr) (h : OHeap) (H : Hp) (base : Heap) (fs : List Addr) (g : Heap) : Prop where
  dif : ∀ a ∈ own, ∀ b ∈ own, ∀ c : Addr, ρ[a]? = some c → ρ[b]? = some c → a = b
  cel : ∀ a ∈ own, ∃ c v oc, ρ[a]? = some c ∧ base.get? c = none ∧ c ∉ fs ∧ h.get a = some (.cell v) ∧ H c = none ∧ g.get? c = some oc ∧ ∀ x, v = some x → ∃ u y, oc.data = .cell (some u) ∧ RelV y u ∧ VR T K ρ H x y
theorem EnvR.celS (I : Inv X pins σ H s) (Ev : EnvR T X own ρ h H fr σ) : CelS T X.K own ρ h H X.base (frs X.stack) s.heap := by
  refine ⟨Ev.dif, fun a ha => ?_⟩
  obtain ⟨c, v, h1, h2, h3, h4, h5⟩ := Ev.cel a ha
  rcases h5 with ⟨j, n, k1, k2, k3, k4, k5, k6⟩ | ⟨k1, k2, k3, oc, k4, k5⟩
  · obtain ⟨w', oc, ho, hd⟩ := I.cell n c k4
    refine ⟨c, v, oc, h1, h2, h3, h4, I.freeC n c k4, ho, fun x hx => ?_⟩
    obtain ⟨y, e1, e2⟩ := k6 x hx
    obtain ⟨m, _, hl⟩ := I.loc
    obtain ⟨u, ru, q⟩ := hl j n y k1 e1 k2
    rcases q with ⟨z, _⟩ | ⟨_, c', e3, oc', e4, e5⟩
    · rcases k3 with k3 | k3 <;> (rw [k3] at z; cases z)
    · rw [k4] at e3
      cases e3
      rw [ho] at e4
      cases e4
      exact ⟨u, y, e5, ru, e2⟩
  · exact ⟨c, v, oc, h1, h2, h3, h4, I.base.free c oc k4 k1 k3, I.base.keep c oc k4 k1 k2 k3, k5⟩
section
variable {base : Heap} {fs : List Addr} {P : Program} {w : World}
theorem CelS.none (S : CelS T K own ρ h H base fs g) {b : Addr} (c : isC ρ own b) : H b = Option.none := by
  obtain ⟨a, ha, e⟩ := c
  obtain ⟨c, v, oc, h1, _, _, _, h5, _⟩ := S.cel a ha
  rw [e] at h1
  cases h1
  exact h5
theorem CelS.obj (S : CelS T K own ρ h H base fs g) {b : Addr} (c : isC ρ own b) : ∃ oc, g.get? b = some oc ∧ trkH g ρ own H b = some (.frz oc (.own 0)) := by
  have c' := c
  obtain ⟨a, ha, e⟩ := c
  obtain ⟨c, v, oc, h1, _, _, _, h5, h6, _⟩ := S.cel a ha
  rw [e] at h1
  cases h1
  exact ⟨oc, h6, trk_at c' h6⟩
theorem CelS.sub (S : CelS T K own ρ h H base fs g) {b : Addr} {o : HO} (e : H b = some o) : trkH g ρ own H b = some o := by
  rw [trk_ne]
  · exact e
  · intro c
    rw [S.none c] at e
    cases e
theorem CelS.hok (S : CelS T K own ρ h H base fs g) (x : HOk P w H g) : HOk P w (trkH g ρ own H) g := fun b o e => by
  by_cases c : isC ρ own b
  · obtain ⟨oc, h1, h2⟩ := S.obj c
    rw [h2] at e
    cases e
    exact ⟨h1, oc, h1⟩
  · rw [trk_ne c] at e
    exact (x b o e).stay (fun _ _ _ q => q) (fun _ q => S.sub q) fun _ _ q => S.sub q
theorem sqT_sub {p : Addr} {vs : List V} (f : ∀ b o, H b = some o → H' b = some o) (r : SqT K H p vs) : SqT K H' p vs := by
  rcases r with (r | ⟨o, r⟩) | r
  · exact .inl (.inl (f _ _ r))
  · exact .inl (.inr ⟨o, f _ _ r⟩)
  · exact .inr r
/-- for the callee: all is tracked -/
theorem CelS.track (S : CelS T K own ρ h H base fs g) (R : HR T K tl own ρ h H) : HR T K tl [] ρ h (trkH g ρ own H) ∧ Ext K [] ρ h H ρ h (trkH g ρ own H) := by
  have sub : ∀ b o, H b = some o → trkH g ρ own H b = some o := fun b o e => S.sub e
  have X1 : Ext K [] ρ h H ρ h (trkH g ρ own H) := ⟨List.prefix_refl _, fun _ _ r => sqT_sub sub r, fun _ _ _ e _ => e⟩
  refine ⟨⟨R.len, fun a p e => ?_, fun a b o o' p e1 e2 n1 n2 r1 r2 => ?_, R.tab.ext sub⟩, X1⟩
  · obtain ⟨o, e1, r⟩ := R.obj a p e
    refine ⟨o, e1, ?_⟩
    by_cases ha : a ∈ own
    · obtain ⟨c, v, oc, h1, _, _, h4, h5, h6, h7⟩ := S.cel a ha
      rw [e] at h1
      cases h1
      rw [e1] at h4
      cases h4
      exact Or.inr ⟨oc, trk_at ⟨a, ha, e⟩ h6, fun x hx => let ⟨u, y, k1, k2, k3⟩ := h7 x hx; ⟨u, y, k1, k2, k3.ext X1⟩⟩
    · have r' : OR T K ρ H [] a p o := by
        cases o with
        | cell v => exact r.elim (fun z => absurd z ha) Or.inr
        | _ => exact r
      refine r'.mono (List.prefix_refl _) (fun _ _ r => sqT_sub sub r) (fun _ _ _ q => sub _ _ q) (fun _ _ q => sub _ _ q) fun n => ?_
      obtain ⟨u, hu⟩ := r'.tracked n
      rw [hu]
      exact sub _ _ hu
  · have cs : ∀ {a : Nat} {o : HObj}, h.get a = some o → ¬ loose [] a o → ρ[a]? = some p → a ∉ own → ∃ u, H p = some u := fun {a o} e n q ha => by
      have r := R.atp e q
      have n' : ¬ loose own a o := by
        cases o with
        | cell v => exact fun z => ha z
        | rol xs => exact n
        | any => exact n
        | _ => exact fun z => z
      exact r.tracked n'
    have cn : ∀ {a : Nat}, a ∈ own → ρ[a]? = some p → H p = Option.none := fun {a} ha q => S.none ⟨a, ha, q⟩
    by_cases ha : a ∈ own
    · by_cases hb : b ∈ own
      · exact S.dif a ha b hb p r1 r2
      · obtain ⟨u, hu⟩ := cs e2 n2 r2 hb
        rw [cn ha r1] at hu
        cases hu
    · by_cases hb : b ∈ own
      · obtain ⟨u, hu⟩ := cs e1 n1 r1 ha
        rw [cn hb r2] at hu
        cases hu
      · have l : ∀ {a : Nat} {o : HObj}, ¬ loose [] a o → a ∉ own → ¬ loose own a o := fun {a o} n ha => by
          cases o with
          | cell v => exact ha
          | rol xs => exact n
          | any => exact n
          | _ => exact fun z => z
        exact R.nd a b o o' p e1 e2 (l n1 ha) (l n2 hb) r1 r2
/-- behind the callee: the cells are the frame's again -/
theorem untrack (own' : ∀ a ∈ own, ∃ c oc v, ρ[a]? = some c ∧ H1 c = some (.frz oc (.own 0)) ∧ h1.get a = some (.cell v)) (pre : ρ <+: ρ1) (R : HR T K tl [] ρ1 h1 H1) : HR T K tl own ρ1 h1 (untH ρ own H1) ∧ ∀ p vs, SqT K H1 p vs → SqT K (untH ρ own H1) p vs := by
  have cz : ∀ {b : Addr}, isC ρ own b → ∃ oc, H1 b = some (.frz oc (.own 0)) := fun {b} ⟨a, ha, e⟩ => by
    obtain ⟨c, oc, v, h1, h2, _⟩ := own' a ha
    rw [e] at h1
    cases h1
    exact ⟨oc, h2⟩
  have keep : ∀ {b : Addr} {o : HO}, H1 b = some o → (∀ oc, o ≠ .frz oc (.own 0)) → untH ρ own H1 b = some o := fun {b o} e n => by
    rw [unt_ne]
    · exact e
    · intro c
      obtain ⟨oc, h⟩ := cz c
      rw [e] at h
      exact n oc (Option.some.inj h)
  have tp : ∀ p vs, SqT K H1 p vs → SqT K (untH ρ own H1) p vs := fun p vs r => by
    rcases r with (r | ⟨o, r⟩) | r
    · exact .inl (.inl (keep r fun _ z => by cases z))
    · exact .inl (.inr ⟨o, keep r fun _ z => by cases z⟩)
    · exact .inr r
  refine ⟨⟨R.len, fun a p e => ?_, fun a b o o' p e1 e2 n1 n2 r1 r2 => ?_, fun q hq => ?_⟩, tp⟩
  · obtain ⟨o, e1, r⟩ := R.obj a p e
    refine ⟨o, e1, ?_⟩
    by_cases ha : a ∈ own
    · obtain ⟨c, oc, v, k1, k2, k3⟩ := own' a ha
      rw [e1] at k3
      cases k3
      exact Or.inl ha
    · have far : ¬ loose [] a o → ¬ isC ρ own p := fun n ⟨b, hb, eb⟩ => by
        obtain ⟨c, oc, v, k1, k2, k3⟩ := own' b hb
        have := R.nd a b o _ p e1 k3 n (fun z => by cases z) e (pre_get pre eb)
        subst this
        exact ha hb
      have mono1 : ¬ loose [] a o → untH ρ own H1 p = H1 p := fun n => unt_ne (far n)
      have fz : ∀ {q : Addr} {ob : Obj} {x : HO}, H1 q = some (.frz ob x) → ¬ isC ρ own q → untH ρ own H1 q = some (.frz ob x) := fun {q ob x} e c => by rw [unt_ne c]; exact e
      cases o with
      | lst xs => obtain ⟨vs, e2, r⟩ := r; exact ⟨vs, by rw [mono1 fun z => z]; exact e2, r.mono (List.prefix_refl _) tp⟩
      | rol xs =>
        obtain ⟨vs, r, s⟩ := r
        refine ⟨vs, r.mono (List.prefix_refl _) tp, ?_⟩
        rcases s with ⟨ob, s⟩ | s
        · exact .inl ⟨ob, keep s fun _ z => by cases z⟩
        · exact .inr s
      | dct kvs lk =>
        obtain ⟨es, r, s⟩ := r
        refine ⟨es, r.mono (List.prefix_refl _) tp, ?_⟩
        cases lk with
        | false => rw [mono1 fun z => z]; exact s
        | true =>
          obtain ⟨ob, s⟩ := s
          exact ⟨ob, keep s fun _ z => by cases z⟩
      | ins c fs => obtain ⟨dx, fs', e2, r⟩ := r; exact ⟨dx, fs', by rw [mono1 fun z => z]; exact e2, r.mono (List.prefix_refl _) tp⟩
      | cell v =>
        rcases r with r | ⟨oc, e2, r⟩
        · cases r
        · exact Or.inr ⟨oc, by rw [mono1 fun z => by cases z]; exact e2, fun x hx => let ⟨u, y, k1, k2, k3⟩ := r x hx; ⟨u, y, k1, k2, k3.mono (List.prefix_refl _) tp⟩⟩
      | clo d caps =>
        obtain ⟨fo, e2, L, cl, pm, c, ct, k1, k2, k3, k4, k5⟩ := r
        exact ⟨fo, by rw [mono1 fun z => z]; exact e2, L, cl, pm, c, ct, k1, k2, keep k3 (fun _ z => by unfold LamX.CodeO at z; cases z), k4, k5⟩
      | exc c fs => obtain ⟨fs', e2, r⟩ := r; exact ⟨fs', by rw [mono1 fun z => z]; exact e2, r.mono (List.prefix_refl _) tp⟩
      | any => exact True.intro
  · have l : ∀ {a : Nat} {o : HObj}, ¬ loose own a o → ¬ loose [] a o := fun {a o} n => by
      cases o with
      | cell v => exact fun z => by cases z
      | rol xs => exact n
      | any => exact n
      | _ => exact fun z => z
    exact R.nd a b o o' p e1 e2 (l n1) (l n2) r1 r2
  · obtain ⟨ps, k1, k2, k3⟩ := R.tab q hq
    refine ⟨ps, keep k1 (fun _ z => by cases z), k2, fun pos cv hc => ?_⟩
    obtain ⟨c, z1, z2⟩ := k3 pos cv hc
    exact ⟨c, z1, keep z2 fun _ z => by unfold LamX.CodeO at z; cases z⟩
end
end
end Py

/-! A call, from an expression. -/
set_option Elab.async false
set_option linter.all false
set_option maxRecDepth 100000
noncomputable section
namespace Py
open PySem PySem.Spec PyProof.Rows L2
/-- what is wanted of a call's end -/
def RunC (T : Tb) (K : PySem.W.Frag) (tl : List (Addr × Str)) (Q : VK) (E : XK) (r : R PV) (ρ : List Addr) (h : OHeap) (H : Hp) : Prop :=
  match r with
  | .ok v h' => ∀ ρ' H' y, Ext K [] ρ h H ρ' h' H' → HR T K tl [] ρ' h' H' → VR T K ρ' H' v y → Q y H'
  | .ex e h' => ∀ ρ' H' p c fs, Ext K [] ρ h H ρ' h' H' → HR T K tl [] ρ' h' H' → h'.get e = some (.exc c fs) → ρ'[e]? = some p → E (.ref (cAdr T K c)) (some p) H'
  | .no => False
/-- a function's promise -/
def Does (T : Tb) (K : PySem.W.Frag) (tl : List (Addr × Str)) (P : Program) (w : World) (mg : Str → Option Value) (base : Heap) (k : Nat) (f : Value) (ks : List Str) (ev : List PV → List PV → OHeap → R PV) : Prop :=
  ∀ (A : Around) (outer : List Env) (s : Shared) (H : Hp) (us ws : List Value) (vs zs : List V) (xs ys : List PV) (ρ : List Addr) (h : OHeap) (Q : VK) (E : XK), Room k A → A.guards = some [] → Env0 P w K mg base A outer s H → Vals vs us → Vals zs ws →
    ws.length = ks.length → HR T K tl [] ρ h H → VRs T K ρ H xs vs → VRs T K ρ H ys zs → RunC T K tl Q E (ev xs ys h) ρ h H → codeAny (model P w) A (.call f ⟨us, ks.zip ws⟩) (L2.CR (L2.CX P w) outer P w H s Q E) s
section
variable {T : Tb} {X : Cx} {tl : List (Addr × Str)} {own : List Nat} {W : WX} {σ : L2.St} {ρ ρ' ρ1 : List Addr} {h h' h1 : OHeap} {H H' H1 : Hp} {fr : Py.Frame} {K : PySem.W.Frag} {pins : List (Addr × Obj)} {s s1 : Shared} {g g1 : Heap} {base : Heap} {fs : List Addr} {P : Program} {w : World}
theorem CelS.env0 {mg : Str → Option Value} {A : Around} {outer : List Env} (S : CelS T K own ρ h H base (frs outer) s.heap) (e : Env0 P w K mg base A outer s H) : Env0 P w K mg base A outer s (trkH s.heap ρ own H) := by
  refine ⟨e.frames, e.mod, fun b o q => ⟨(e.bs b o q).1, ?_⟩, e.bsz, e.funs, fun b hb => ?_, S.hok e.hok, e.bare⟩
  · rw [trk_ne]
    · exact (e.bs b o q).2
    · rintro ⟨a, ha, ea⟩
      obtain ⟨c, v, oc, h1, h2, _⟩ := S.cel a ha
      rw [ea] at h1
      cases h1
      rw [q] at h2
      cases h2
  · rw [trk_ne]
    · exact e.frf b hb
    · rintro ⟨a, ha, ea⟩
      obtain ⟨c, v, oc, h1, _, h3, _⟩ := S.cel a ha
      rw [ea] at h1
      cases h1
      exact h3 hb
/-- the cells are still there -/
theorem CelS.still (S : CelS T K own ρ h H base fs g) (f : ∀ b o u, trkH g ρ own H b = some (.frz o u) → H1 b = some (.frz o u)) {b : Addr} (c : isC ρ own b) : ∃ oc, g.get? b = some oc ∧ H1 b = some (.frz oc (.own 0)) := by
  obtain ⟨oc, h1, h2⟩ := S.obj c
  exact ⟨oc, h1, f _ _ _ h2⟩
theorem CelS.own' (S : CelS T K own ρ h H base fs g) (f : ∀ b o u, trkH g ρ own H b = some (.frz o u) → H1 b = some (.frz o u)) (e : Ext K [] ρ h (trkH g ρ own H) ρ1 h1 H1) : ∀ a ∈ own, ∃ c oc v, ρ[a]? = some c ∧ H1 c = some (.frz oc (.own 0)) ∧ h1.get a = some (.cell v) := fun a ha => by
  obtain ⟨c, v, oc, k1, _, _, k4, _⟩ := S.cel a ha
  obtain ⟨oc', _, k5⟩ := S.still f ⟨a, ha, k1⟩
  exact ⟨c, oc', v, k1, k5, e.fix a _ (by simp) k4 rfl⟩
theorem CelS.sub1 (S : CelS T K own ρ h H base fs g) (f : ∀ b o u, trkH g ρ own H b = some (.frz o u) → H1 b = some (.frz o u)) {b : Addr} {o : HO} (e : untH ρ own H1 b = some o) : H1 b = some o ∧ ¬ isC ρ own b := by
  by_cases c : isC ρ own b
  · rw [unt_at c] at e
    cases e
  · rw [unt_ne c] at e
    exact ⟨e, c⟩
theorem CelS.hok1 (S : CelS T K own ρ h H base fs g) (f : ∀ b o u, trkH g ρ own H b = some (.frz o u) → H1 b = some (.frz o u)) (x : HOk P w H1 g1) : HOk P w (untH ρ own H1) g1 := fun b o e => by
  obtain ⟨e1, _⟩ := S.sub1 f e
  have st : ∀ {c : Addr} {o : HO}, H1 c = some o → (∀ oc, o ≠ .frz oc (.own 0)) → untH ρ own H1 c = some o := fun {c o} q n => by
    rw [unt_ne]
    · exact q
    · intro z
      obtain ⟨oc, _, k⟩ := S.still f z
      rw [q] at k
      exact n oc (Option.some.inj k)
  exact (x b o e1).stay (fun _ _ _ q => q) (fun _ q => st q fun _ z => by cases z) fun _ _ q => st q fun _ z => by cases z
theorem CelS.un (S : CelS T K own ρ h H base fs g) (u : Un fs [] (trkH g ρ own H) H1 g g1) (x : HOk P w H1 g1) : Un fs [] H (untH ρ own H1) g g1 := by
  have f := u.frzs
  have st : ∀ {c : Addr} {o : HO}, H1 c = some o → H c = some o → untH ρ own H1 c = some o := fun {c o} q n => by
    rw [unt_ne]
    · exact q
    · intro z
      rw [S.none z] at n
      cases n
  refine ⟨fun b o e n hb hx => ?_, fun b o e n hb hx => ?_, fun b o e n hx => ?_, u.there, fun b xs e => st (u.tups b xs (S.sub e)) e, fun b o v e => st (u.frzs b o v (S.sub e)) e, fun b ps e => ?_⟩
  · by_cases c : isC ρ own b
    · obtain ⟨oc, k1, k2⟩ := S.still f c
      rw [e] at k1
      cases k1
      exact (x b _ k2).1
    · exact u.keep b o e (by rw [trk_ne c]; exact n) hb hx
  · by_cases c : isC ρ own b
    · exfalso
      obtain ⟨a, ha, ea⟩ := c
      obtain ⟨c, v, oc, h1, _, h3, _⟩ := S.cel a ha
      rw [ea] at h1
      cases h1
      exact h3 hb
    · exact u.slot b o e (by rw [trk_ne c]; exact n) hb hx
  · by_cases c : isC ρ own b
    · exact unt_at c
    · rw [unt_ne c]
      exact u.free b o e (by rw [trk_ne c]; exact n) hx
  · obtain ⟨more, q⟩ := u.tbls b ps (S.sub e)
    refine ⟨more, ?_⟩
    rw [unt_ne]
    · exact q
    · intro z
      rw [S.none z] at e
      cases e
theorem CelS.ub {h2 : Heap} (S : CelS T K own ρ h H base fs g) (u : UB fs (trkH g ρ own H) H1 g g1 h2) (x : HOk P w H1 g1) : UB fs H (untH ρ own H1) g g1 h2 := by
  have f := u.frzs
  have st : ∀ {c : Addr} {o : HO}, H1 c = some o → H c = some o → untH ρ own H1 c = some o := fun {c o} q n => by
    rw [unt_ne]
    · exact q
    · intro z
      rw [S.none z] at n
      cases n
  refine ⟨fun b o e n hb => ?_, u.slot, fun b o e n => ?_, u.there, fun b xs e => st (u.tups b xs (S.sub e)) e, fun b o v e => st (u.frzs b o v (S.sub e)) e, fun b ps e => ?_⟩
  · by_cases c : isC ρ own b
    · obtain ⟨oc, k1, k2⟩ := S.still f c
      rw [e] at k1
      cases k1
      exact (x b _ k2).1
    · exact u.keep b o e (by rw [trk_ne c]; exact n) hb
  · by_cases c : isC ρ own b
    · exact unt_at c
    · rw [unt_ne c]
      exact u.free b o e (by rw [trk_ne c]; exact n)
  · obtain ⟨more, q⟩ := u.tbls b ps (S.sub e)
    refine ⟨more, ?_⟩
    rw [unt_ne]
    · exact q
    · intro z
      rw [S.none z] at e
      cases e
theorem CelS.ext (S : CelS T K own ρ h H base fs g) (R : HR T K tl own ρ h H) (tp : ∀ p vs, SqT K H1 p vs → SqT K (untH ρ own H1) p vs) (e : Ext K [] ρ h (trkH g ρ own H) ρ1 h1 H1) : Ext K [] ρ h H ρ1 h1 (untH ρ own H1) :=
  ⟨e.pre, fun p vs r => tp p vs (e.tup p vs ((S.track R).2.tup p vs r)), e.fix⟩
/-- a call, seen from its context -/
theorem call_run {k : Nat} {f : Value} {ks : List Str} {ev : List PV → List PV → OHeap → R PV} {us ws : List Value} {vs zs : List V} {xs ys : List PV} {Q : VK} (dz : Does T X.K tl X.prog X.w X.mg X.base k f ks ev) (hr : Room k X.A) (hgd : X.A.guards = some []) (tk : Takes X W)
    (I : Inv X pins σ H s) (R : HR T X.K tl own ρ h H) (Ev : EnvR T X own ρ h H fr σ) (r1 : Vals vs us) (r2 : Vals zs ws) (hl : ws.length = ks.length) (rx : VRs T X.K ρ H xs vs) (ry : VRs T X.K ρ H ys zs)
    (q : Run T X tl own W σ (ev xs ys h) (fun v ρ' h' H' => ∀ y, VT T X ρ' h' H' v y → Q y H') ρ h H) : wpAny (model X.prog X.w) X.A (call f us (ks.zip ws)) (EP X pins σ Q) X.xe s := by
  have S := Ev.celS I
  obtain ⟨R0, x0⟩ := S.track R
  have e0 : Env0 X.prog X.w X.K X.mg X.base X.A X.stack s (trkH s.heap ρ own H) := S.env0 I.env0
  cases er : ev xs ys h with
  | no => rw [er] at q; exact q.elim
  | ok v h1 =>
    rw [er] at q
    refine wpAny_call (codeAny_mono (dz X.A X.stack s (trkH s.heap ρ own H) us ws vs zs xs ys ρ h
      (fun y H1 => ∃ ρ1, Ext X.K [] ρ h (trkH s.heap ρ own H) ρ1 h1 H1 ∧ HR T X.K tl [] ρ1 h1 H1 ∧ VR T X.K ρ1 H1 v y) (fun _ _ _ => False) hr hgd e0 r1 r2 hl R0 (rx.ext x0) (ry.ext x0) (by rw [er]; exact fun ρ' H' y a b c => ⟨ρ', a, b, c⟩)) fun r s' hq => ?_)
    cases r with
    | error e =>
      obtain ⟨_, _, _, _, _, _, _, _, _, _, _, _, z⟩ := (show L2.CX X.prog X.w X.stack _ s (fun _ _ _ => False) e s' from hq)
      exact z.elim
    | ok fl =>
      cases fl with
      | ret u =>
        obtain ⟨y, H1, os, bare, un, hok, ru, ρ1, e1, R1, rv⟩ := hq
        have f := un.frzs
        obtain ⟨R2, tp⟩ := untrack (S.own' f e1) e1.pre R1
        have I2 : Inv X pins σ (untH ρ own H1) s' := I.call' (ch := []) os (S.un un hok) (S.hok1 f hok) bare fun _ z => by cases z
        exact ⟨y, _, I2, ru, q ρ1 _ (S.ext R tp e1) R2 y (.inl (rv.mono (List.prefix_refl _) tp))⟩
      | next => exact False.elim hq
      | brk => exact False.elim hq
      | cont => exact False.elim hq
  | ex e h1 =>
    rw [er] at q
    refine wpAny_call (codeAny_mono (dz X.A X.stack s (trkH s.heap ρ own H) us ws vs zs xs ys ρ h (fun _ _ => False)
      (fun cls d H1 => ∃ ρ1 p c fs, cls = .ref (cAdr T X.K c) ∧ d = some p ∧ Ext X.K [] ρ h (trkH s.heap ρ own H) ρ1 h1 H1 ∧ HR T X.K tl [] ρ1 h1 H1 ∧ h1.get e = some (.exc c fs) ∧ ρ1[e]? = some p) hr hgd e0 r1 r2 hl R0 (rx.ext x0) (ry.ext x0)
      (by rw [er]; exact fun ρ' H' p c fs a b d e => ⟨ρ', p, c, fs, rfl, rfl, a, b, d, e⟩)) fun r s' hq => ?_)
    cases r with
    | error e' =>
      change L2.CX _ _ _ _ _ _ e' s' at hq
      obtain ⟨a, B, H1, cls, d, ea, fl, hok, ub, na, os, ag, ρ1, p, c, fs, e1, e2, x1, R1, hg, hp⟩ := hq
      subst e1 e2
      have f := ub.frzs
      obtain ⟨R2, tp⟩ := untrack (S.own' f x1) x1.pre R1
      have na' : untH ρ own H1 a = none := by
        by_cases z : isC ρ own a
        · exact unt_at z
        · rw [unt_ne z]
          exact na
      refine tk e' s' (XE.of_call (E := fun cls d H2 => W cls d σ H2) I (fun _ _ _ z => z) ⟨a, B, untH ρ own H1, _, _, ea, fl, S.hok1 f hok, S.ub ub hok, na', os, ag, ?_⟩)
      exact q ρ1 _ p c fs (S.ext R tp x1) R2 hg hp
    | ok fl =>
      cases fl with
      | ret u =>
        obtain ⟨_, _, _, _, _, _, _, z⟩ := hq
        exact z.elim
      | next => exact False.elim hq
      | brk => exact False.elim hq
      | cont => exact False.elim hq
end
end Py

/-! A def's body: its entry, its end. -/
set_option Elab.async false
set_option linter.all false
set_option maxRecDepth 100000
noncomputable section
namespace Py
open PySem PySem.Spec PyProof.Rows L2
/-- what a context must be, to run a text's code -/
structure CxOk (T : Tb) (tl : List (Addr × Str)) (k : Nat) (X : Cx) (W : WX) (N : List Str) (sc : Scope) (cm fb lb : Bool) : Prop where
  hN : X.N = N
  hS : X.env.scope = sc
  cn : CxN X
  calm : X.calm = cm
  fx : Fx T X.K X.mg
  hu : X.A.units + 66 < cLine
  gd : X.A.guards = some []
  room : cm = true → Room k X.A
  tk : cm = true → Takes X W
  po : cm = true → PassesOwn (model X.prog X.w) X.A X.env X.xe
  fn : fb = true → ∀ x, X.fn x = true
  stk : fb = true → X.stack = X.env :: X.outer ∧ X.env.frame = some X.env.locals
  lam : lb = true → ∃ c Pt, X.env.code = .ref c ∧ LamX.TabB X.base X.mg c Pt ∧ (Pt, X.env.qual ++ "<lambda>") ∈ tl ∧ ∀ p ∈ tl, p.1 = Pt → p.2 = X.env.qual ++ "<lambda>"
section
variable {T : Tb} {X : Cx} {tl : List (Addr × Str)} {own : List Nat} {W : WX} {σ : L2.St} {ρ ρ' ρ1 : List Addr} {h h' h1 : OHeap} {H H' H1 : Hp} {fr : Py.Frame} {K : PySem.W.Frag} {pins : List (Addr × Obj)} {s s1 : Shared} {g g1 : Heap} {base : Heap} {fs : List Addr} {P : Program} {w : World}
theorem HR.pushCell {c : Addr} {v : Option PV} (R : HR T K tl own ρ h H) : HR T K tl (h.n :: own) (ρ ++ [c]) (h.push (.cell v)) H := by
  have pre : ρ <+: ρ ++ [c] := List.prefix_append _ _
  have at_ : ∀ {b p : Nat}, (ρ ++ [c])[b]? = some p → (b < h.n ∧ ρ[b]? = some p) ∨ (b = h.n ∧ p = c) := fun {b p} e => by
    by_cases hb : b < ρ.length
    · rw [List.getElem?_append_left hb] at e
      exact .inl ⟨by rw [← R.len]; exact hb, e⟩
    · rw [List.getElem?_append_right (Nat.le_of_not_lt hb)] at e
      cases hk : b - ρ.length with
      | zero =>
        rw [hk] at e
        exact .inr ⟨by rw [← R.len]; omega, (Option.some.inj e).symm⟩
      | succ k => rw [hk] at e; cases e
  have old : ∀ {b : Nat}, b < h.n → (h.push (.cell v)).get b = h.get b := fun {b} hb => by rw [OHeap.get_push, if_neg (Nat.ne_of_lt hb)]
  have new : (h.push (.cell v)).get h.n = some (.cell v) := by rw [OHeap.get_push, if_pos rfl]
  refine ⟨by rw [List.length_append, R.len]; rfl, fun b p e => ?_, fun a b o o' p e1 e2 n1 n2 r1 r2 => ?_, R.tab⟩
  · rcases at_ e with ⟨hb, e⟩ | ⟨hb, _⟩
    · obtain ⟨o, e1, r⟩ := R.obj b p e
      refine ⟨o, by rw [old hb]; exact e1, ?_⟩
      have r' : OR T K ρ H (h.n :: own) b p o := by
        cases o with
        | cell v => exact r.imp (fun z => List.mem_cons_of_mem _ z) fun z => z
        | _ => exact r
      exact r'.mono pre (fun _ _ z => z) (fun _ _ _ z => z) (fun _ _ z => z) fun _ => rfl
    · subst hb
      exact ⟨_, new, Or.inl List.mem_cons_self⟩
  · have nn : ∀ {a : Nat} {o : HObj}, (h.push (.cell v)).get a = some o → ¬ loose (h.n :: own) a o → (ρ ++ [c])[a]? = some p → h.get a = some o ∧ ¬ loose own a o ∧ ρ[a]? = some p := fun {a o} e n q => by
      rcases at_ q with ⟨hb, q⟩ | ⟨hb, _⟩
      · refine ⟨by rw [← old hb]; exact e, ?_, q⟩
        cases o with
        | cell v => exact fun z => n (List.mem_cons_of_mem _ z)
        | rol xs => exact n
        | any => exact n
        | _ => exact fun z => z
      · subst hb
        rw [new] at e
        cases e
        exact absurd List.mem_cons_self n
    obtain ⟨a1, a2, a3⟩ := nn e1 n1 r1
    obtain ⟨b1, b2, b3⟩ := nn e2 n2 r2
    exact R.nd a b o o' p a1 b1 a2 b2 a3 b3
theorem Ext.pushO {own : List Nat} {c : Addr} {o : HObj} : Ext K own ρ h H (ρ ++ [c]) (h.push o) H :=
  ⟨List.prefix_append _ _, fun _ _ z => z, fun a o' _ e _ => by rw [OHeap.get_push, if_neg (Nat.ne_of_lt (OHeap.get_lt e))]; exact e⟩
/-- at the entry: every own cell is a name's -/
def Fst (X : Cx) (own : List Nat) (ρ : List Addr) (fr : Py.Frame) (lo : Nat) : Prop := ∀ a ∈ own, lo ≤ a ∧ ∃ (j : Nat) (n : Str) (c : Addr), X.N[j]? = some n ∧ fr[j]? = some (Slot.c a) ∧ X.env.cells.lookup n = some c ∧ ρ[a]? = some c
theorem start_cell (I : Inv X pins σ H s) (N : CxN X) {lo : Nat} {i : Nat} {n : Str} {v : Option PV} (hn : X.N[i]? = some n) (hk : X.env.scope.names.lookup n = some .cell) (hb : ∀ n c, X.env.cells.lookup n = some c → X.base.get? c = none ∧ c ∉ frs X.stack)
    (R : HR T X.K tl own ρ h H) (Ev : EnvR T X own ρ h H fr σ) (F : Fst X own ρ fr lo) (hlo : lo ≤ h.n) (hf : (∃ x, fr[i]? = some (.v x) ∧ v = some x ∧ clean x = true) ∨ (fr[i]? = some .n ∧ v = none)) :
    ∃ c, HR T X.K tl (h.n :: own) (ρ ++ [c]) (h.push (.cell v)) H ∧ EnvR T X (h.n :: own) (ρ ++ [c]) (h.push (.cell v)) H (fr.set i (.c h.n)) σ ∧ Fst X (h.n :: own) (ρ ++ [c]) (fr.set i (.c h.n)) lo ∧ ∀ own', Ext X.K own' ρ h H (ρ ++ [c]) (h.push (.cell v)) H := by
  have kc : X.env.kindOf n = some .cell := hk
  obtain ⟨c, hc⟩ := I.ok.has n (.inl kc)
  obtain ⟨b1, b2⟩ := hb n c hc
  have vs : Vis X.env.scope n := .inr (.inl hk)
  have x0 : ∀ own', Ext X.K own' ρ h H (ρ ++ [c]) (h.push (.cell v)) H := fun _ => Ext.pushO
  have fil : i < fr.length := by
    rcases hf with ⟨x, z, _⟩ | ⟨z, _⟩ <;> exact (List.getElem?_eq_some_iff.mp z).1
  have notc : ∀ a, fr[i]? ≠ some (.c a) := fun a z => by
    rcases hf with ⟨x, y, _⟩ | ⟨y, _⟩ <;> (rw [y] at z; cases z)
  have newp : (ρ ++ [c])[h.n]? = some c := at_new R
  have newo : (h.push (.cell v)).get h.n = some (.cell v) := by rw [OHeap.get_push, if_pos rfl]
  have val : ∀ x, v = some x → ∃ y, σ[i]? = some (some y) ∧ VR T X.K (ρ ++ [c]) H x y := fun x hx => by
    rcases hf with ⟨x', e, e2, hcl⟩ | ⟨_, e2⟩
    · rw [e2] at hx
      cases hx
      obtain ⟨y, e1, r⟩ : SlotR T X own ρ h H σ i n (some (.v x)) := by rw [← e]; exact Ev.slot i n hn vs
      exact ⟨y, e1, (r.cl hcl).ext (x0 [])⟩
    · rw [e2] at hx; cases hx
  have Ev1 := Ev.ext (x0 [])
  have jne : ∀ {j : Nat} {a : Nat}, fr[j]? = some (.c a) → j ≠ i := fun {j a} e z => by subst z; exact notc a e
  have seto : ∀ {j : Nat}, j ≠ i → (fr.set i (Slot.c h.n))[j]? = fr[j]? := fun {j} z => List.getElem?_set_ne (Ne.symm z)
  have seti : (fr.set i (Slot.c h.n))[i]? = some (.c h.n) := List.getElem?_set_self fil
  have dis : ∀ a ∈ own, ρ[a]? ≠ some c := fun a ha z => by
    obtain ⟨_, j, m, c', h1, h2, h3, h4⟩ := F a ha
    rw [z] at h4
    cases h4
    have := N.inj _ _ _ hc h3
    subst this
    exact jne h2 (nodup_ix N.nd h1 hn)
  have pa : ∀ {a : Nat} {d : Addr}, ρ[a]? = some d → (ρ ++ [c])[a]? = some d := fun {a d} e => pre_get (List.prefix_append _ _) e
  refine ⟨c, R.pushCell, ⟨fun j m hj hm => ?_, Ev.len, fun a ha b hb d e1 e2 => ?_, fun a ha => ?_⟩, fun a ha => ?_, x0⟩
  · by_cases hji : j = i
    · subst hji
      rw [hn] at hj
      cases hj
      rw [seti]
      exact ⟨List.mem_cons_self, .inl kc, c, v, hc, newp, newo, val⟩
    · rw [seto hji]
      have z := Ev1.slot j m hj hm
      cases q : fr[j]? with
      | none => exact True.intro
      | some sl =>
        rw [q] at z
        cases sl with
        | c a =>
          obtain ⟨k1, k2⟩ := z
          exact ⟨List.mem_cons_of_mem _ k1, k2⟩
        | _ => exact z
  · have od : ∀ {a : Nat}, a ∈ own → ∃ d, ρ[a]? = some d := fun {a} ha => let ⟨_, _, _, c', _, _, _, z⟩ := F a ha; ⟨c', z⟩
    rcases List.mem_cons.mp ha with rfl | ha
    · rcases List.mem_cons.mp hb with rfl | hb
      · rfl
      · obtain ⟨d', hd⟩ := od hb
        rw [newp] at e1
        cases e1
        rw [pa hd] at e2
        cases e2
        exact absurd hd (dis b hb)
    · obtain ⟨d', hd⟩ := od ha
      rw [pa hd] at e1
      cases e1
      rcases List.mem_cons.mp hb with rfl | hb
      · rw [newp] at e2
        cases e2
        exact absurd hd (dis a ha)
      · obtain ⟨d2, hd2⟩ := od hb
        rw [pa hd2] at e2
        cases e2
        exact Ev.dif a ha b hb _ hd hd2
  · rcases List.mem_cons.mp ha with rfl | ha
    · exact ⟨c, v, newp, b1, b2, newo, .inl ⟨i, n, hn, vs, .inl kc, hc, seti, val⟩⟩
    · obtain ⟨c', v', k1, k2, k3, k4, k5⟩ := Ev1.cel a ha
      refine ⟨c', v', k1, k2, k3, k4, ?_⟩
      rcases k5 with ⟨j, m, g1, g2, g3, g4, g5, g6⟩ | k5
      · exact .inl ⟨j, m, g1, g2, g3, g4, by rw [seto (jne g5)]; exact g5, g6⟩
      · exact .inr k5
  · rcases List.mem_cons.mp ha with rfl | ha
    · exact ⟨hlo, i, n, c, hn, seti, hc, newp⟩
    · obtain ⟨k0, j, m, c', k1, k2, k3, k4⟩ := F a ha
      exact ⟨k0, j, m, c', k1, by rw [seto (jne k2)]; exact k2, k3, pa k4⟩
/-- the cells of a def: names of the kind cell -/
def cellsB (N : List Str) (sc : Scope) (cells : List Nat) : Bool := cells.all fun i => match N[i]? with
  | some n => decide (sc.names.lookup n = some .cell)
  | none => false
theorem start_cells (I : Inv X pins σ H s) (N : CxN X) (hb : ∀ n c, X.env.cells.lookup n = some c → X.base.get? c = none ∧ c ∉ frs X.stack) {lo : Nat} : ∀ {cells : List Nat} {own : List Nat} {ρ : List Addr} {h : OHeap} {fr : Py.Frame}, cellsB X.N X.env.scope cells = true →
    HR T X.K tl own ρ h H → EnvR T X own ρ h H fr σ → Fst X own ρ fr lo → lo ≤ h.n →
    ∃ own' ρ', HR T X.K tl own' ρ' (defStart cells fr h).2 H ∧ EnvR T X own' ρ' (defStart cells fr h).2 H (defStart cells fr h).1 σ ∧ Fst X own' ρ' (defStart cells fr h).1 lo ∧ (∀ own'', Ext X.K own'' ρ h H ρ' (defStart cells fr h).2 H) ∧ (cells = [] → own' = own)
  | [], own, ρ, h, fr, _, R, Ev, F, _ => ⟨own, ρ, R, Ev, F, fun _ => Ext.refl, fun _ => rfl⟩
  | i :: r, own, ρ, h, fr, hc, R, Ev, F, hlo => by
    unfold cellsB at hc
    rw [List.all_cons, Bool.and_eq_true] at hc
    obtain ⟨hc1, hc2⟩ := hc
    cases en : X.N[i]? with
    | none => rw [en] at hc1; cases hc1
    | some n =>
      rw [en] at hc1
      have hk : X.env.scope.names.lookup n = some .cell := of_decide_eq_true hc1
      unfold defStart
      have lo' : lo ≤ (h.push (.cell none)).n := Nat.le_succ_of_le hlo
      split
      · rename_i x ex
        split
        · rename_i hcl
          obtain ⟨c, R1, Ev1, F1, x1⟩ := start_cell I N en hk hb R Ev F hlo (v := some x) (.inl ⟨x, ex, rfl, hcl⟩)
          obtain ⟨own', ρ', k1, k2, k3, k4, _⟩ := start_cells I N hb hc2 R1 Ev1 F1 lo'
          exact ⟨own', ρ', k1, k2, k3, fun o => (x1 o).tr (k4 o), fun z => by cases z⟩
        · obtain ⟨own', ρ', k1, k2, k3, k4, _⟩ := start_cells I N hb hc2 R Ev F hlo
          exact ⟨own', ρ', k1, k2, k3, k4, fun z => by cases z⟩
      · rename_i ex
        obtain ⟨c, R1, Ev1, F1, x1⟩ := start_cell I N en hk hb R Ev F hlo (v := none) (.inr ⟨ex, rfl⟩)
        obtain ⟨own', ρ', k1, k2, k3, k4, _⟩ := start_cells I N hb hc2 R1 Ev1 F1 lo'
        exact ⟨own', ρ', k1, k2, k3, fun o => (x1 o).tr (k4 o), fun z => by cases z⟩
      · obtain ⟨own', ρ', k1, k2, k3, k4, _⟩ := start_cells I N hb hc2 R Ev F hlo
        exact ⟨own', ρ', k1, k2, k3, k4, fun z => by cases z⟩
end
end Py

/-! A def is called. -/
set_option Elab.async false
set_option linter.all false
set_option maxRecDepth 100000
noncomputable section
namespace Py
open PySem PySem.Spec PyProof.Rows L2
def callB (Pg : Prog) (C : CallH) (D : Dfn) (vs : List PV) (h : OHeap) : R PV := match evalSs Pg C D.body (defStart D.cells (vs.map .v ++ List.replicate (D.ns - vs.length) .n) h).1 (defStart D.cells (vs.map .v ++ List.replicate (D.ns - vs.length) .n) h).2 with
        | .rt v _ h' => .ok v h'
        | .nx _ h' => .ok .non h'
        | .ex e _ h' => (match D.cells with
          | [] => .ex e h'
          | _ => .no)
        | _ => .no
section
variable {T : Tb} {tl : List (Addr × Str)} {K : PySem.W.Frag} {base : Heap} {P : Program} {w : World} {mg : Str → Option Value}
theorem run_def {k : Nat} {C : CallH} {Dt : DT} {Df : Dfn} {dvs : List V} {kws : List (Str × V)} {f : Addr} {fd : FuncData} {lb : Bool} (Fd : FunD K Dt.name Dt.qual Dt.params Dt.body Dt.scope dvs kws f fd) (S : FnScope Dt.N Dt.ps Dt.scope)
    (hns : Df.ns = Dt.N.length) (hcl : cellsB Dt.N Dt.scope Df.cells = true) (fx : Fx T K mg)
    (hl : lb = true → ∃ c Pt, fd.code = .ref c ∧ LamX.TabB base mg c Pt ∧ (Pt, (envOfC Dt.qual Dt.scope 0 0 .none).qual ++ "<lambda>") ∈ tl ∧ ∀ p ∈ tl, p.1 = Pt → p.2 = (envOfC Dt.qual Dt.scope 0 0 .none).qual ++ "<lambda>")
    (hbody : ∀ (X : Cx) (W : WX) (own : List Nat), X.prog = P → X.w = w → X.K = K → X.mg = mg → X.base = base → CxOk T tl k X W Dt.N Dt.scope true true lb → QSs X Dt.body (tS T X tl own W (evalSs T.P C Df.body)))
    {A : Around} {outer : List Env} {s : Shared} {H : Hp} {args : Args} {ρ : List Addr} {h : OHeap} {bound : List PV} {Q : VK} {E : XK} (hr : Room (k + 1) A) (hgd : A.guards = some []) (e0 : Env0 P w K mg base A outer s H)
    (hb : ∀ (A' : Around) (Ex : Value → Shared → Prop) (Q' : List (Str × Value) → Shared → Prop),
      (∀ (s2 : Shared) (H2 : Hp) (ρ2 : List Addr) (vs : List V) (us : List Value), Env0 P w K mg base A outer s2 H2 → Un (frs outer) [] H H2 s.heap s2.heap → s2.os = s.os → (∀ E e s', L2.CX P w outer H2 s2 E e s' → L2.CX P w outer H s E e s') → Vals vs us → vs.length = Dt.ps.length →
        Ext K [] ρ h H ρ2 h H2 → HR T K tl [] ρ2 h H2 → VRs T K ρ2 H2 bound vs → Q' (Dt.ps.zip us) s2) → wpAny (model P w) A' (bindArgs fd args) Q' Ex s)
    (q : RunC T K tl Q E (callB T.P C Df bound h) ρ h H) : codeAny (model P w) A (.call (.ref f) args) (L2.CR (L2.CX P w) outer P w H s Q E) s := by
  obtain ⟨oc, od, dV, kV, doc, pm, an, cdv, ct, osl, rfl, lk, hcd, _, _⟩ := Fd.ex
  have KX : K.In s.heap := e0.mod.kin.keeps fun b o e => (e0.bs b o e).1
  refine codeAny_call_function hr.depth (KX _ _ lk) rfl S.co S.gen rfl (PySem.W.codeRec_of KX hcd) ?_
  refine hb _ _ _ fun s2 H2 ρ2 vs us e2 un ho hx r hlen x2 R2 rv => ?_
  have hkind : ∀ y ∈ Dt.ps.zip us, Dt.scope.names.lookup y.1 = some .local ∨ (Dt.scope.names.lookup y.1 = some .cell ∧ ((cellsFrom (s2.heap.objs.size + 1) Dt.scope.names []).lookup y.1).isSome = true) := fun y hy => by
    rcases S.par y.1 (List.of_mem_zip hy).1 with z | z
    · exact .inl z
    · exact .inr ⟨z, PySem.W.cellsFrom_some _ _ _ (.inl z)⟩
  have lim : s2.heap.NoLimit := e0.mod.nolimit.keeps fun b o e => (e2.bs b o e).1
  refine wpAny_newFunctionEnv_cells (s := s2) S.kind hkind fun env he s1 x => ?_
  subst he
  refine ⟨lim.keeps x.toInCall.keep, codeAny_func ?_⟩
  have I : Inv (cxOf (L2.CX P w) P w K mg base Dt.N Dt.qual Dt.scope f cdv A outer s2 H2 E) [] (L2.start Dt.N vs) H2 s1 := inv_start S hr.hd e2 hlen r x
  generalize hX : cxOf (L2.CX P w) P w K mg base Dt.N Dt.qual Dt.scope f cdv A outer s2 H2 E = X0 at I
  have xN : X0.N = Dt.N := by subst hX; rfl
  have xS : X0.env.scope = Dt.scope := by subst hX; rfl
  have xK : X0.K = K := by subst hX; rfl
  have xP : X0.prog = P := by subst hX; rfl
  have xw : X0.w = w := by subst hX; rfl
  have xm : X0.mg = mg := by subst hX; rfl
  have xb : X0.base = base := by subst hX; rfl
  have x0 : X0.s_0 = s2 := by subst hX; rfl
  have xH : X0.H_0 = H2 := by subst hX; rfl
  have xfs : X0.fs = frs outer := by subst hX; rfl
  have xex : X0.ex = [] := by subst hX; rfl
  have hst : X0.stack = X0.env :: X0.outer := by subst hX; rfl
  have hfr : X0.env.frame = some X0.env.locals := by subst hX; rfl
  have xA : X0.A = A.deeper (envOfC Dt.qual Dt.scope s2.heap.objs.size f cdv) := by subst hX; rfl
  have xq : X0.env.qual = (envOfC Dt.qual Dt.scope 0 0 .none).qual := by subst hX; rfl
  have xcd : X0.env.code = cdv := by subst hX; rfl
  have xe : X0.xe = fun e s' => wpAny (model X0.prog X0.w) X0.A (leaving X0.env e) (fun _ s'' => L2.CX X0.prog X0.w X0.outer X0.H_0 X0.s_0 E e s'') (fun e' s'' => L2.CX P w outer H2 s2 E e' s'') s' := by subst hX; rfl
  have N : CxN X0 := ⟨by rw [xN]; exact S.nd, I.ok.inj⟩
  have cn : ∀ n c, X0.env.cells.lookup n = some c → X0.base.get? c = none ∧ c ∉ frs X0.stack ∧ s2.heap.objs.size ≤ c := fun n c hc => by
    have hge : s2.heap.objs.size ≤ c := by rw [← x0]; exact I.ok.cab n c (by subst hX; rfl) hc
    refine ⟨?_, fun hm => ?_, hge⟩
    · cases hz : X0.base.get? c with
      | none => rfl
      | some o =>
        have := Heap.lt_size (I.ok.bs c o hz).1
        rw [x0] at this
        exact absurd (Nat.lt_of_lt_of_le this hge) (Nat.lt_irrefl _)
    · rcases List.mem_cons.mp (I.stkSub c hm) with z | z
      · exact I.cne n c hc z
      · obtain ⟨_, o, ho', _⟩ := I.ok.funs.mem z
        have := Heap.lt_size ho'
        rw [x0] at this
        exact absurd (Nat.lt_of_lt_of_le this hge) (Nat.lt_irrefl _)
  have W0 : CxOk T tl k X0 (fun cls d _ H' => E cls d H') Dt.N Dt.scope true true lb := by
    have hr' : Room k X0.A := by rw [xA]; exact hr.deeper _
    refine ⟨xN, xS, N, (by subst hX; rfl), by rw [xK, xm]; exact fx, ?_, ?_, fun _ => hr', fun _ => takes_of hst hfr xex xe, fun _ => passes_of xe, fun _ x => (by subst hX; rfl), fun _ => ⟨hst, hfr⟩, fun hlb => ?_⟩
    · have := hr'.un
      omega
    · rw [xA]; exact hgd
    · obtain ⟨c, Pt, h1, h2, h3, h4⟩ := hl hlb
      rw [xb, xm, xq, xcd]
      exact ⟨c, Pt, h1, h2, h3, h4⟩
  have R2' : HR T X0.K tl [] ρ2 h H2 := by rw [xK]; exact R2
  have Ev0 : EnvR T X0 [] ρ2 h H2 (bound.map .v ++ List.replicate (Df.ns - bound.length) .n) (L2.start Dt.N vs) := by
    refine ⟨fun j n hj hn => ?_, by rw [I.len], fun a ha => by (cases ha), fun a ha => by (cases ha)⟩
    by_cases hlt : j < bound.length
    · rw [List.getElem?_append_left (by simpa using hlt), List.getElem?_map]
      obtain ⟨x, ex⟩ : ∃ x, bound[j]? = some x := ⟨_, List.getElem?_eq_getElem hlt⟩
      rw [ex]
      obtain ⟨y, ey, ry⟩ := rv.get ex
      refine ⟨y, ?_, .inl (by rw [xK]; exact ry)⟩
      unfold L2.start
      rw [List.getElem?_append_left (by rw [List.length_map, ← rv.length]; exact hlt), List.getElem?_map, ey]
      rfl
    · rw [List.getElem?_append_right (by simpa using Nat.le_of_not_lt hlt)]
      rw [List.getElem?_replicate]
      split <;> exact True.intro
  obtain ⟨own, ρ1, R1, Ev1, F1, x1, hown⟩ := start_cells I N (fun n c hc => ⟨(cn n c hc).1, (cn n c hc).2.1⟩) (lo := h.n) (cells := Df.cells) (by rw [xN, xS]; exact hcl) R2' Ev0 (fun a ha => by cases ha) (Nat.le_refl _)
  have B := hbody X0 _ own xP xw xK xm xb W0
  unfold callB at q
  generalize hfr1 : (defStart Df.cells (bound.map .v ++ List.replicate (Df.ns - bound.length) .n) h).1 = fr1 at q R1 Ev1 F1 x1
  generalize hh1 : (defStart Df.cells (bound.map .v ++ List.replicate (Df.ns - bound.length) .n) h).2 = h1 at q R1 Ev1 F1 x1
  have fin : ∀ {σ' : L2.St} {H' : Hp} {s' : Shared} {ρ' : List Addr} {h' : OHeap} {fr' : Py.Frame} {v : PV} {y : V} {u : Value}, Inv X0 [] σ' H' s' → Ext X0.K own ρ1 h1 H2 ρ' h' H' → HR T X0.K tl own ρ' h' H' → EnvR T X0 own ρ' h' H' fr' σ' → VR T X0.K ρ' H' v y → RelV y u →
      RunC T K tl Q E (.ok v h') ρ h H → CE outer P w H s Q u s' := fun {σ' H' s' ρ' h' fr' v y u} J e3 R3 Ev3 r3 ru qq => by
    have Sc := Ev3.celS J
    obtain ⟨R4, x4⟩ := Sc.track R3
    have newc : ∀ {b : Addr}, isC ρ' own b → s2.heap.objs.size ≤ b := fun {b} ⟨a, ha, ea⟩ => by
      obtain ⟨_, j, n, c, _, _, k3, k4⟩ := F1 a ha
      have := pre_get e3.pre k4
      rw [ea] at this
      cases this
      exact (cn n _ k3).2.2
    have uJ : Un (frs outer) [] H2 H' s2.heap s'.heap := by
      have := J.base
      rw [xfs, xex, xH, x0] at this
      exact this
    have u2 : Un (frs outer) [] H2 (trkH s'.heap ρ' own H') s2.heap s'.heap :=
      ⟨uJ.keep, uJ.slot, fun b o e n hx => by
        rw [trk_ne fun z => absurd (Nat.lt_of_lt_of_le (Heap.lt_size e) (newc z)) (Nat.lt_irrefl _)]
        exact uJ.free b o e n hx, uJ.there, fun b xs e => Sc.sub (uJ.tups b xs e), fun b o v e => Sc.sub (uJ.frzs b o v e), fun b ps e => let ⟨m, z⟩ := uJ.tbls b ps e; ⟨m, Sc.sub z⟩⟩
    have hokJ : HOk P w H' s'.heap := by
      have := J.hok
      rw [xP, xw] at this
      exact this
    have e4 : Ext K [] ρ h H ρ' h' (trkH s'.heap ρ' own H') := by
      rw [xK] at e3 x4
      have x1' : Ext K [] ρ2 h H2 ρ1 h1 H2 := by
        have := x1 []
        rw [xK] at this
        exact this
      refine (x2.tr x1').trans (own' := own) (fun a ha => ?_) (e3.tr (x4.up fun _ z => by cases z))
      obtain ⟨k0, _⟩ := F1 a ha
      refine .inr ?_
      cases hz : h.get a with
      | none => rfl
      | some o => exact absurd (OHeap.get_lt hz) (Nat.not_lt.mpr k0)
    rw [xK] at R4 r3 x4
    refine ⟨y, _, ?_, J.bare, un.trans u2, Sc.hok hokJ, ru, qq ρ' _ y e4 R4 (r3.ext x4)⟩
    have := J.os
    rw [x0] at this
    exact this.trans ho
  generalize hev : evalSs T.P C Df.body fr1 h1 = res at q
  have body := B.run [] s1 (L2.start Dt.N vs) H2
    ⟨fun σ' H' => ∃ fr' h' ρ', res = .nx fr' h' ∧ Ext X0.K own ρ1 h1 H2 ρ' h' H' ∧ HR T X0.K tl own ρ' h' H' ∧ EnvR T X0 own ρ' h' H' fr' σ',
      fun y σ' H' => ∃ v fr' h' ρ', res = .rt v fr' h' ∧ Ext X0.K own ρ1 h1 H2 ρ' h' H' ∧ HR T X0.K tl own ρ' h' H' ∧ EnvR T X0 own ρ' h' H' fr' σ' ∧ VR T X0.K ρ' H' v y, fun _ _ => False, fun _ _ => False⟩ I
    ⟨ρ1, h1, fr1, R1, Ev1, by
      rw [hev]
      cases res with
      | nx fr' h' => exact fun ρ' H' σ' a b c => ⟨fr', h', ρ', rfl, a, b, c⟩
      | rt v fr' h' => exact fun ρ' H' σ' y a b c d => ⟨v, fr', h', ρ', rfl, a, b, c, d⟩
      | ex e fr' h' =>
        intro ρ' H' σ' p c fs a b _ hg hp
        dsimp only at q
        split at q
        · rename_i hc0
          have o0 := hown hc0
          subst o0
          rw [xK] at a b ⊢
          have x1' : Ext K [] ρ2 h H2 ρ1 h1 H2 := by
            have := x1 []
            rw [xK] at this
            exact this
          exact q ρ' H' p c fs ((x2.tr x1').tr a) b hg hp
        · exact q.elim
      | bk _ _ => exact q.elim
      | ct _ _ => exact q.elim
      | no => exact q.elim⟩
  rw [xP, xw, xA] at body
  have henv : X0.env = envOfC Dt.qual Dt.scope s2.heap.objs.size f cdv := by subst hX; rfl
  rw [henv] at body
  refine wpAny_mono body (fun fl s' hs => ?_) fun e s' hs => ?_
  · cases fl with
    | ret u =>
      obtain ⟨y, σ', H', J, ru, v, fr', h', ρ', er, a, b, c, d⟩ := hs
      subst er
      exact fin J a b c d ru q
    | next =>
      obtain ⟨σ', H', J, fr', h', ρ', er, a, b, c⟩ := hs
      subst er
      exact fin (v := .non) (y := V.non) (u := Value.none) J a b c rfl rfl q
    | brk =>
      obtain ⟨_, _, _, z⟩ := hs
      exact z.elim
    | cont =>
      obtain ⟨_, _, _, z⟩ := hs
      exact z.elim
  · have hs' : wpAny (model P w) (A.deeper (envOfC Dt.qual Dt.scope s2.heap.objs.size f cdv)) (leaving (envOfC Dt.qual Dt.scope s2.heap.objs.size f cdv) e) (fun _ s'' => L2.CX P w outer H2 s2 E e s'') (fun e' s'' => L2.CX P w outer H2 s2 E e' s'') s' := by
      rw [← hX] at hs
      exact hs
    exact wpAny_mono hs' (fun _ s'' z => hx E e s'' z) fun e' s'' z => hx E e' s'' z
end
end Py

/-! Binding; what the defs do. -/
set_option Elab.async false
set_option linter.all false
set_option maxRecDepth 100000
noncomputable section
namespace Py
open PySem PySem.Spec PyProof.Rows L2
theorem look_zip {ν : Type} : ∀ {ns : List Str} {us : List ν}, us.length = ns.length → ∀ n ∈ ns, ((ns.zip us).lookup n).isSome = true
  | [], _, _, n, h => nomatch h
  | m :: ns, [], e, _, _ => nomatch e
  | m :: ns, u :: us, e, n, h => by
    show (List.lookup n ((m, u) :: ns.zip us)).isSome = true
    rw [List.lookup_cons]
    cases hb : (n == m) with
    | true => rfl
    | false =>
      rcases List.mem_cons.mp h with z | z
      · rw [z, beq_self_eq_true] at hb; cases hb
      · exact look_zip (by simpa using e) n z
theorem fm_congr {α β : Type} {f g : α → Option β} : ∀ {l : List α}, (∀ x ∈ l, f x = g x) → l.filterMap f = l.filterMap g
  | [], _ => rfl
  | x :: l, h => by
    rw [List.filterMap_cons, List.filterMap_cons, h x List.mem_cons_self, fm_congr fun y hy => h y (List.mem_cons_of_mem _ hy)]
theorem fm_zip {ν : Type} : ∀ {ns : List Str} {us : List ν}, us.length = ns.length → ns.Nodup → ns.filterMap (fun n => ((ns.zip us).lookup n).map fun x => (n, x)) = ns.zip us
  | [], _, _, _ => rfl
  | m :: ns, [], e, _ => nomatch e
  | m :: ns, u :: us, e, nd => by
    obtain ⟨h1, h2⟩ := List.nodup_cons.mp nd
    have ih := fm_zip (ns := ns) (us := us) (by simpa using e) h2
    show List.filterMap (fun n => (List.lookup n ((m, u) :: ns.zip us)).map fun x => (n, x)) (m :: ns) = (m, u) :: ns.zip us
    rw [List.filterMap_cons, List.lookup_cons, beq_self_eq_true]
    show (m, u) :: _ = _
    congr 1
    refine Eq.trans ?_ ih
    refine fm_congr fun n hn => ?_
    rw [List.lookup_cons]
    have : (n == m) = false := beq_eq_false_iff_ne.mpr fun z => h1 (by rw [← z]; exact hn)
    rw [this]
theorem keep_slots {ns : List Str} {sl : List (Str × Value)} (h : ∀ n ∈ ns, (sl.lookup n).isSome = true) : ∀ l : List (Str × Value), (∀ q ∈ l, q.1 ∈ ns) →
    (forIn l sl fun x s => if (List.lookup x.1 s).isNone = true then pure (ForInStep.yield (s ++ [(x.1, x.2)])) else pure (ForInStep.yield s) : Sem (List (Str × Value))) = pure sl
  | [], _ => rfl
  | q :: l, hl => by
    rw [List.forIn_cons]
    have z : ¬ (List.lookup q.1 sl).isNone = true := by
      have := h q.1 (hl q List.mem_cons_self)
      rw [Option.isNone_iff_eq_none]
      intro e
      rw [e] at this
      cases this
    rw [if_neg z, pure_bind]
    exact keep_slots h l fun p hp => hl p (List.mem_cons_of_mem _ hp)
theorem bind_pos {name qual : Str} {args : List Arg} {kwd : List (Option PySem.Expr)} {dfl : List PySem.Expr} {body : List Stmt} {scope : Scope} {dV kV doc pm cdv ct : Value} {an : Option Addr} {us : List Value} (hl : us.length = args.length) (nd : (args.map (·.arg)).Nodup) :
  bindArgs (PySem.W.fnOf name qual ⟨[], args, none, [], kwd, none, dfl⟩ body scope dV kV doc pm an cdv ct) ⟨us, []⟩ = (seqItems? dV >>= fun _ => pure ((args.map (·.arg)).zip us)) := by
  unfold bindArgs
  have h1 : ¬ args.length < us.length := by omega
  have hl' : us.length = (args.map (·.arg)).length := by simpa using hl
  have lk := look_zip hl'
  have ft : ∀ k, (List.take k (args.map (·.arg))).filter (fun n => (List.lookup n ((args.map (·.arg)).zip us)).isNone) = [] := fun k => by
    rw [List.filter_eq_nil_iff]
    intro n hn
    have := lk n (List.mem_of_mem_take hn)
    rw [Option.isNone_iff_eq_none]
    intro e
    rw [e] at this
    cases this
  simp [PySem.W.fnOf, h1, hl, ft]
  rw [map_eq_pure_bind]
  refine bind_congr fun d => ?_
  rw [keep_slots lk _ fun q hq => List.mem_of_mem_drop (List.of_mem_zip hq).1]
  rw [map_pure]
  congr 1
  have := fm_zip hl' nd
  rw [List.filterMap_map] at this
  exact this

theorem bind_star {name qual : Str} {va : Arg} {kwd : List (Option PySem.Expr)} {dfl : List PySem.Expr} {body : List Stmt} {scope : Scope} {dV kV doc pm cdv ct : Value} {an : Option Addr} {us : List Value} :
  bindArgs (PySem.W.fnOf name qual ⟨[], [], some va, [], kwd, none, dfl⟩ body scope dV kV doc pm an cdv ct) ⟨us, []⟩ = (seqItems? dV >>= fun _ => newTuple us >>= fun t => pure [(va.arg, t)]) := by
  unfold bindArgs
  simp [PySem.W.fnOf]
section
variable {T : Tb} {tl : List (Addr × Str)} {K : PySem.W.Frag} {base : Heap} {P : Program} {w : World} {mg : Str → Option Value}
theorem seqIt {α : Type} {M : Model} {h : Heap} {dV : Value} {dvs : List V} {k : Option (Array Value) → Sem α} (X : K.In h) (D : DflV K dV dvs) {R : Sem α → Prop} (hk : ∀ o, k o = k none) {r : α} (e : PySem.W.Looks M h (k none) r) : PySem.W.Looks M h (seqItems? dV >>= k) r := by
  rcases D with ⟨_, rfl⟩ | ⟨_, T, o, its, n, rfl, lT, oT, _⟩
  · show PySem.W.Looks M h (pure none >>= k) r
    rw [pure_bind]
    exact e
  · exact looks_items X lT oT (by rw [hk]; exact e)
/-- the parameters, plain -/
def plainPs (p : Arguments) (ps : List Str) : Prop := ∃ args kwd dfl, p = ⟨[], args, none, [], kwd, none, dfl⟩ ∧ args.map (·.arg) = ps
def starPs (p : Arguments) (ps : List Str) : Prop := ∃ va kwd dfl, p = ⟨[], [], some va, [], kwd, none, dfl⟩ ∧ ps = [va.arg]
/-- the names of attribute numbers -/
def namesB (an : List Str) : List Nat → List Str → Bool
  | [], [] => true
  | i :: l, x :: r => decide (an[i]? = some x) && namesB an l r
  | _, _ => false
/-- a further way to call a def, told of the machine -/
def ShOk (T : Tb) (K : PySem.W.Frag) (D : Dfn) (Dt : DT) (fd : FuncData) (n : Nat) (kn : List Nat) : Prop :=
  ∀ (ks : List Str) (s : Shared) (us ws : List Value) (vs zs : List V) (xs ys : List PV) (ρ : List Addr) (H : Hp) (bound : List PV), namesB T.an kn ks = true → K.In s.heap → Vals vs us → Vals zs ws → us.length = n → ws.length = ks.length → VRs T K ρ H xs vs → VRs T K ρ H ys zs →
    bindGo (D.ps.zip xs ++ kn.zip ys) D.dfl D.ps = some bound → ∃ bs gs, BindsTo s fd ⟨us, ks.zip ws⟩ (Dt.ps.zip gs) ∧ Vals bs gs ∧ bs.length = Dt.ps.length ∧ VRs T K ρ H bound bs
/-- what a def of the text must be -/
structure DefOk (T : Tb) (K : PySem.W.Frag) (mg : Str → Option Value) (base : Heap) (tl : List (Addr × Str)) (D : Dfn) (Dt : DT) (lb : Bool) (fd : FuncData) : Prop where
  fn : ∃ dvs kws, FunD K Dt.name Dt.qual Dt.params Dt.body Dt.scope dvs kws (He.fAd K Dt.at_) fd
  sc : FnScope Dt.N Dt.ps Dt.scope
  ns : D.ns = Dt.N.length
  cells : cellsB Dt.N Dt.scope D.cells = true
  pl : D.star = false → plainPs Dt.params Dt.ps ∧ D.ps.length = Dt.ps.length
  st : D.star = true → starPs Dt.params Dt.ps
  sh : ∀ q ∈ D.sh, ShOk T K D Dt fd q.1 q.2
  lam : lb = true → ∃ c Pt, fd.code = .ref c ∧ LamX.TabB base mg c Pt ∧ (Pt, (envOfC Dt.qual Dt.scope 0 0 .none).qual ++ "<lambda>") ∈ tl ∧ ∀ p ∈ tl, p.1 = Pt → p.2 = (envOfC Dt.qual Dt.scope 0 0 .none).qual ++ "<lambda>"
theorem eqNs_eq : ∀ {l m : List Nat}, eqNs l m = true → l = m
  | [], [], _ => rfl
  | a :: l, b :: m, e => by
    unfold eqNs at e
    rw [Bool.and_eq_true] at e
    rw [Nat.eq_of_beq_eq_true e.1, eqNs_eq e.2]
  | [], _ :: _, e => nomatch e
  | _ :: _, [], e => nomatch e
/-- what a call of a def computes -/
def evDef (Pg : Prog) (C : CallH) (D : Dfn) (kn : List Nat) : List PV → List PV → OHeap → R PV := fun xs ys h => match bindA D xs kn ys with
  | some vs => callB Pg C D vs h
  | none => .no
theorem does_def {k : Nat} {C : CallH} {Dt : DT} {Df : Dfn} {fd : FuncData} {lb : Bool} (G : DefOk T K mg base tl Df Dt lb fd) (fx : Fx T K mg)
    (hbody : ∀ (X : Cx) (W : WX) (own : List Nat), X.prog = P → X.w = w → X.K = K → X.mg = mg → X.base = base → CxOk T tl k X W Dt.N Dt.scope true true lb → QSs X Dt.body (tS T X tl own W (evalSs T.P C Df.body))) {ks : List Str} {kn : List Nat} (hk : namesB T.an kn ks = true) :
    Does T K tl P w mg base (k + 1) (.ref (He.fAd K Dt.at_)) ks (evDef T.P C Df kn) := by
  intro A outer s H us ws vs zs xs ys ρ h Q E hr hgd e0 r1 r2 hl R rx ry q
  obtain ⟨dvs, kws, Fd⟩ := G.fn
  unfold evDef at q
  split at q
  · rename_i bound hb
    refine run_def (args := ⟨us, ks.zip ws⟩) Fd G.sc G.ns G.cells fx G.lam hbody hr hgd e0 (bound := bound) (fun A' Ex Q' go => ?_) q
    have KX : K.In s.heap := e0.mod.kin.keeps fun b o e => (e0.bs b o e).1
    obtain ⟨oc, od, dV, kV, doc, pm, an, cdv, ct, osl, efd, lk, hcd, hD, hK⟩ := Fd.ex
    have same : ∀ {bs : List V} {gs : List Value}, BindsTo s fd ⟨us, ks.zip ws⟩ (Dt.ps.zip gs) → Vals bs gs → bs.length = Dt.ps.length → VRs T K ρ H bound bs → wpAny (model P w) A' (bindArgs fd ⟨us, ks.zip ws⟩) Q' Ex s := fun {bs gs} B r l rb =>
      B _ _ _ _ (go s H ρ bs gs e0 Un.refl rfl (fun _ _ _ z => z) r l Ext.refl R rb)
    unfold bindA at hb
    split at hb
    · rename_i hst
      split at hb
      · rename_i hps hkn hf
        cases hb
        obtain ⟨va, kwd, dfl, hp, hps'⟩ := G.st hst
        have ek : ks = [] := by
          cases ks with
          | nil => rfl
          | cons _ _ => cases hk
        subst ek
        subst efd
        rw [hp]
        show wpAny _ _ (bindArgs _ ⟨us, []⟩) _ _ _
        rw [bind_star]
        have hn : H s.heap.objs.size = none := e0.hok.fresh (Nat.le_refl _)
        have hz : vs.length ≤ sizeLine := by rw [← rx.length]; exact fits_le hf
        have hz2 : us.length ≤ sizeLine := by rw [← r1.length]; exact hz
        have main : wpAny (model P w) A' (newTuple us >>= fun t => pure [(va.arg, t)]) Q' Ex s := by
          refine wpAny_bind (wpAny_newTuple (wpAny_pure ?_) hz2)
          have new : ObjOk P w (upd H s.heap.objs.size (.tup vs)) (s.heap.push ({ cls := .type "tuple", data := .seq us.toArray } : Obj)) s.heap.objs.size (.tup vs) := ⟨hz, us, r1, ⟨_, Heap.get?_push_size _ rfl, rfl, _, rfl⟩⟩
          have un := StX.un_laid (fs := frs outer) (s := s) (o := ({ cls := .type "tuple", data := .seq us.toArray } : Obj)) (u := .tup vs) hn
          have x2 : Ext K [] ρ h H ρ h (upd H s.heap.objs.size (.tup vs)) := Ext.laid hn
          have z := go _ _ ρ [V.ref s.heap.objs.size] [Value.ref s.heap.objs.size] (StX.env0_laid e0 new) un rfl (fun E e s' => StX.cxUp outer s H _ _ E e s' un (fun b o q => Heap.get?_push_of_some _ q) rfl) (.cons rfl .nil)
            (by rw [hps']; rfl) x2 (R.laid hn) ⟨_, [], rfl, ⟨_, vs, rfl, SqT.of upd_same, rx.ext x2⟩, rfl⟩
          rw [hps'] at z
          exact z
        rcases hD with ⟨_, rfl⟩ | ⟨_, T', o, its, n, rfl, lT, oT, _⟩
        · exact wpAny_bind (wpAny_pure main)
        · exact wpAny_bind (wpAny_seqItems (KX _ _ lT) oT main)
      · cases hb
    · rename_i hst
      obtain ⟨⟨args, kwd, dfl, hp, hps⟩, hlen⟩ := G.pl hst
      split at hb
      · rename_i hkn hbq
        cases hb
        have ek : ks = [] := by
          cases ks with
          | nil => rfl
          | cons _ _ => cases hk
        subst ek
        have hl1 : us.length = Dt.ps.length := by
          rw [← r1.length, ← rx.length, ← hlen]
          exact Nat.eq_of_beq_eq_true hbq
        have hl2 : us.length = args.length := by rw [hl1, ← hps]; simp
        subst efd
        refine same (bs := vs) (gs := us) (BindsTo.of_looks fun M => ?_) r1 (by rw [r1.length, hl1]) rx
        show PySem.W.Looks M s.heap (bindArgs _ ⟨us, []⟩) _
        rw [hp, bind_pos hl2 (by rw [hps]; have := G.sc.nd; rw [← G.sc.pre]; exact this.sublist (List.take_sublist _ _)), hps]
        exact seqIt (R := fun _ => True) KX hD (fun _ => rfl) (.of_pure rfl)
      · split at hb
        · rename_i hany
          obtain ⟨q', hq, hq2⟩ := List.any_eq_true.mp hany
          rw [Bool.and_eq_true] at hq2
          have e1 := Nat.eq_of_beq_eq_true hq2.1
          have e2 := eqNs_eq hq2.2
          have sh := G.sh q' hq
          rw [e1, e2] at sh
          obtain ⟨bs, gs, B, rb, lb', rr⟩ := sh ks s us ws vs zs xs ys ρ H bound hk KX r1 r2 (by rw [← r1.length, ← rx.length]) hl rx ry hb
          exact same B rb lb' rr
        · cases hb
  · exact q.elim
end
end Py

/-! An own exception is made: its __init__ says super().__init__('..'), then stores its parameters. -/
set_option Elab.async false
set_option linter.all false
set_option maxRecDepth 100000
noncomputable section
namespace Py
open PySem PySem.Spec PyProof.Rows L2
/-! ### the stores -/
inductive FldAsgs (sf : Str) : List Stmt → List (Str × Str) → Prop
  | nil : FldAsgs sf [] []
  | cons {f v : Str} {p1 p2 p3 pos : Pos} {sts : List Stmt} {fs : List (Str × Str)} (r : FldAsgs sf sts fs) : FldAsgs sf (.Assign [.Attribute (.Name sf p1) f p2] (.Name v p3) pos :: sts) ((f, v) :: fs)
def putAll (m : Str → Option Value) : List (Str × Str) → (Str → Option Value) → Str → Option Value
  | [], mA => mA
  | (f, v) :: r, mA => putAll m r fun y => if y = f then m v else mA y
abbrev excOD (C t : Addr) (d : Option Addr) : Obj := { cls := .ref C, dict := d, data := .fields #[.ref t, .none, .none, .none, .bool false, .none] }
section
variable {prog : Program} {w : World} {A : Around} {E : Value → Shared → Prop} {K : PySem.W.Frag} {C e L : Addr} {env : Env} {m : Str → Option Value} {sf : Str}
theorem ldLoc {s : Shared} {x : Str} {pos : Pos} {v : Value} {M : Model} {Q : Value → Shared → Prop} (hk : env.scope.kind = .function) (hl : env.scope.names.lookup x = some .local) (hn : s.heap.Ns env.locals m) (hv : m x = some v) (hd : (x == ("__debug__" : Str)) = false) (h : Q v s) : wpAny M A (eval (.Name x pos) env) Q E s :=
  wpAny_Name (wpAny_loadName_local hk hl hn hv h) hd
theorem exc_cls (T : OexC K C) : ∃ cd, PySem.W.clsIn K C = some cd ∧ PySem.HandSPX.refsVE cd.mro = true ∧ cd.hasDict = true := by
  obtain ⟨nm, q, N, bs, bm, sn, sub, ab, col, dd, k0, k1, k2, k3, k5, hC, hbm⟩ := T.cls
  refine ⟨{ name := nm, bases := bs, mro := .ref C :: bm, ns := N, qualname := q, hasDict := true, slotNames := sn, subclasses := sub, abstract := ab, collection := col, hasDel := false }, ?_, hbm, rfl⟩
  unfold PySem.W.clsIn
  rw [hC] <;> rfl
/-- what the stores want of the names -/
structure StOk (K : PySem.W.Frag) (C : Addr) (env : Env) (m : Str → Option Value) (sf : Str) (e : Addr) (fs : List (Str × Str)) : Prop where
  me : env.scope.names.lookup sf = some .local ∧ m sf = some (.ref e) ∧ (sf == ("__debug__" : Str)) = false
  at_ : ∀ p ∈ fs, env.scope.names.lookup p.2 = some .local ∧ (∃ u, m p.2 = some u) ∧ (p.2 == ("__debug__" : Str)) = false ∧ PySem.W.findIn K (.ref C) p.1 = some none
theorem StOk.tl {f : Str × Str} {fs : List (Str × Str)} (s : StOk K C env m sf e (f :: fs)) : StOk K C env m sf e fs := ⟨s.me, fun p hp => s.at_ p (List.mem_cons_of_mem _ hp)⟩
theorem flds_rest (T : OexC K C) (hk : env.scope.kind = .function) : ∀ {sts : List Stmt} {fs : List (Str × Str)}, FldAsgs sf sts fs → StOk K C env m sf e fs → ∀ {s : Shared} {dx t1 : Addr} {mA : Str → Option Value} {nl : List Str} {Q : Flow → Shared → Prop}, K.In s.heap → (∀ o, K.lookup dx ≠ some o) →
    s.heap.Ns env.locals m → env.locals ≠ dx → dx ≠ e → s.heap.get? e = some (excOD C t1 (some dx)) → s.heap.Ns1 dx mA → Within mA nl → nl.length + fs.length ≤ 900 →
    (∀ h' tk', (∀ b o, b ≠ dx → s.heap.get? b = some o → h'.get? b = some o) → h'.Ns1 dx (putAll m fs mA) → Q .next { s with heap := h', toks := tk' }) → wpAny (model prog w) A (execs sts env) Q E s
  | _, _, .nil, _, s, dx, t1, mA, nl, Q, X, _, hn, _, _, he, hd, hw, hz, hq => wpAny_execs_nil (hq s.heap s.toks (fun _ _ _ z => z) hd)
  | _, _, .cons (f := f) (v := v) (fs := fs) r, S, s, dx, t1, mA, nl, Q, X, hK, hn, hLd, hde, he, hd, hw, hz, hq => by
    obtain ⟨cd, hcd, hm, hh⟩ := exc_cls T
    obtain ⟨l1, ⟨u, hu⟩, d1, no⟩ := S.at_ (f, v) List.mem_cons_self
    obtain ⟨l2, e2, d2⟩ := S.me
    refine wpAny_execs_cons (plainObj_wpAny_Assign_Attribute (ldLoc hk l1 hn hu d1 (ldLoc hk l2 hn e2 d2 ?_)))
    obtain ⟨hp, g, d, t, os⟩ := s
    obtain ⟨oD, _, _, hoD, _, _⟩ := hd.count hw
    refine PySem.W.set_plain X (ox := excOD C t1 (some dx)) (od := some oD) ⟨he, rfl, rfl, hoD⟩ T.sa ?_
    refine PySem.OEX.osa_old X he hd hw (by rw [List.length_cons] at hz; omega) hcd hm hh no (fun h' tk' k hn' => ?_)
    have hn2 : h'.Ns env.locals m := by
      obtain ⟨o, es, ep, ho, hr⟩ := hn
      exact ⟨o, es, ep, k _ _ hLd ho, hr⟩
    refine flds_rest T hk r S.tl (s := ⟨h', g, d, tk', os⟩) (dx := dx) (t1 := t1) (mA := fun y => if y = f then some u else mA y) (nl := f :: nl) (fun a o z => k a o (fun q => hK o (by rw [← q]; exact z)) (X a o z)) hK hn2 hLd hde (k _ _ (Ne.symm hde) he) hn' (Within.cons f u hw) (by rw [List.length_cons] at hz ⊢; omega) (fun h2 t2 k2 n2 => ?_)
    have := hq h2 t2 (fun b o hb z => k2 b o hb (k b o hb z))
    unfold putAll at this
    rw [hu] at this
    exact this n2
end
end Py

/-! super().__init__('..') in an own exception's __init__. -/
set_option Elab.async false
set_option linter.all false
set_option maxRecDepth 100000
set_option maxHeartbeats 1000000
noncomputable section
namespace Py
open PySem PySem.Spec PyProof.Rows L2
section
variable {prog : Program} {w : World} {A : Around} {E : Value → Shared → Prop} {K : PySem.W.Frag} {C e : Addr} {hh : Heap} {gg : Array GenState} {dd : Drawn} {tt : Nat} {oo : OsState}
/-- the bound built-in __init__ is called: the arguments are laid anew -/
theorem call_mw {u t0 : Addr} {rest : List Value} {Q : Value → Shared → Prop} (T : OexC K C) (X : K.In hh) (he : hh.get? e = some (PySem.HandSPX.excO C t0)) (hu : hh.get? u = some (PySem.W.kxs_mw "ValueError.__init__" e)) (hz : rest.length ≤ sizeLine)
    (hq : ∀ h1 t1, (∀ b o, b ≠ e → hh.get? b = some o → h1.get? b = some o) → h1.get? e = some (PySem.HandSPX.excO C t1) → Q .none ⟨h1, gg, dd, tt, oo⟩) : wpAny (model prog w) A (call (.ref u) rest) Q E ⟨hh, gg, dd, tt, oo⟩ := by
  obtain ⟨nm, q, N, bs, bm, sn, sub, ab, col, dx, k0, k1, k2, k3, k5, hC, hbm⟩ := T.cls
  refine wpAny_call (codeAny_of_tree ?_)
  show wpAny (model prog w) A.in1 (callAny (.ref u) ⟨rest, []⟩) _ _ ⟨hh, gg, dd, tt, oo⟩
  unfold callAny
  refine wpAny_bind (wpAny_load hu ?_)
  simp only [PySem.W.kxs_mw, show (Value.type "method-wrapper" == Value.type "method" || Value.type "method-wrapper" == Value.type "builtin_function_or_method" || Value.type "method-wrapper" == Value.type "method-wrapper") = true by decide +kernel, if_true]
  refine PySem.W.KFB.if_so (by decide) (wpAny_bind (PySem.W.check_bound_init PySem.F.excBase_ValueError.toExcCallFacts (X _ _ hC) he rfl (wpAny_bind (wpAny_pure (wpAny_pure ⟨plainId_quiet PySem.F.excBase_ValueError.init.plain _, codeAny_builtin PySem.F.excBase_ValueError.initEntry ?_⟩)))))
  exact PySem.W.exc_init_tree (cls := .ref C) (t0 := t0) (dv := none) (c2 := .none) (c3 := .none) (b4 := .bool false) he hz fun h1 k1 e1 _ => hq h1 _ k1 e1
theorem meth_evalA {n : Str} {o : PySem.Expr} {apos pos : Pos} {args : List PySem.Expr} {env : Env} (hs : args.all noStar = true) (hl : args.length < 30) (hline : (apos.endLine == pos.line) = true) : eval (.Call (.Attribute o n apos) args [] pos) env = (do
      let ov ← attributeBase o n env (eval o env)
      standAt apos.atName
      let (g, first) ← holding [ov] (getMethod ov n (do return (← importBound o env).getD true))
      callWith pos g first (backTo pos (starEach args env)) []) := by
  have few : methodCallForm (args.length + ([] : List Keyword).length) (backTo pos (starEach args env)) (backToKw pos (keywordEach [] env)) = true := by
    unfold methodCallForm
    rw [star_all hs]
    show (true && true && decide (args.length + 0 + 0 < 30)) = true
    simpa using hl
  show (do
    let ov ← attributeBase o n env (eval o env)
    standAt apos.atName
    methodCall o n apos pos env ov (args.length + ([] : List Keyword).length) (backTo pos (starEach args env)) (backToKw pos (keywordEach [] env))) = _
  refine bind_congr fun ov => bind_congr fun _ => ?_
  unfold methodCall
  rw [few]
  unfold calleeOf methodCallPos
  simp [hline]
  rfl
/-- what the __init__ leans on -/
structure XFn (P : Program) (K : PySem.W.Frag) (mg : Str → Option Value) (C f cda cc : Addr) (scope : Scope) : Prop where
  ex : OexC K C
  fn : ∃ oc od fd osl ar, K.lookup f = some ⟨oc, od, .func fd, osl⟩ ∧ (fd.params.posonlyargs ++ fd.params.args).head? = some ar ∧ ar.arg = "self"
  cod : ∃ ccl cdd vs ccs file tf, K.lookup cda = some ⟨ccl, cdd, .fields vs, ccs⟩ ∧ vs[2]? = some (.str file tf) ∧ ((P.main.file : Str) == file) = true
  cel : ∃ cl cld csl, K.lookup cc = some ⟨cl, cld, .cell (some (.ref C)), csl⟩
  mro : PySem.W.mroIn K C (.ref C) = some true
  sup : PySem.W.ks_superIn K C C "__init__" = some (some (.builtin "ValueError.__init__"))
  sub : PySem.W.subIn K (.ref C) (.type "ValueError") = some true
  opq : PySem.W.nsIn K cStatics "thirdparty.any" = some none
  mgs : mg "super" = none
  top : (P.main.scope.names.lookup ("super" : Str)).isSome = false
  kind : scope.kind = .function
  sks : scope.names.lookup ("super" : Str) = some .globalImplicit
  skc : scope.names.lookup ("__class__" : Str) = some .free
  slf : scope.names.lookup ("self" : Str) = some .local
theorem super_stmt {mg : Str → Option Value} {base : Heap} {f cda cc L : Addr} {scope : Scope} {body : List Stmt} {q : Str} {m : Str → Option Value} {t0 : Addr} {p0 p1 apos p2 cpos epos : Pos} {msg : Str} {j : Nat} {Q : Flow → Shared → Prop} (hline : (apos.endLine == cpos.line) = true)
    (F : XFn prog K mg C f cda cc scope) (MB : Mod K mg base) (bk : ∀ b o, base.get? b = some o → hh.get? b = some o) (hn : hh.Ns L m) (hm : m "self" = some (.ref e)) (he : hh.get? e = some (PySem.HandSPX.excO C t0))
    (hq : ∀ h1 t1 tk, (∀ b o, b ≠ e → hh.get? b = some o → h1.get? b = some o) → h1.get? e = some (PySem.HandSPX.excO C t1) → hh.objs.size ≤ h1.objs.size → Q .next ⟨h1, gg, dd, tk, oo⟩) :
    _root_.PySem.wpAt (model prog w) A (.func body (PySem.W.ksEnv q scope L f (.ref cda) cc)) (exec (.Expr (.Call (.Attribute (.Call (.Name "super" p0) [] [] p1) "__init__" apos) [.Constant (.str msg) j p2] [] cpos) epos) (PySem.W.ksEnv q scope L f (.ref cda) cc)) Q E ⟨hh, gg, dd, tt, oo⟩ := by
  have X : K.In hh := MB.kin.keeps bk
  obtain ⟨cd, hcd, _, _⟩ := exc_cls F.ex
  obtain ⟨oc, od, fd, osl, ar, hf, hp, har⟩ := F.fn
  obtain ⟨ccl, cdd, vs, ccs, file, tf, hcode, hvs, hfile⟩ := F.cod
  obtain ⟨cl, cld, csl, hcell⟩ := F.cel
  obtain ⟨mb, hb1, hb2⟩ := MB.blt
  obtain ⟨oD, hD1, hD2⟩ : ∃ oD, hh.get? C = some oD ∧ oD.data = .cls cd := by
    obtain ⟨nm, q, N, bs, bm, sn, sub, ab, col, dx, k0, k1, k2, k3, k5, hC, hbm⟩ := F.ex.cls
    refine ⟨_, X _ _ hC, ?_⟩
    unfold PySem.W.clsIn at hcd
    rw [hC] at hcd
    exact congrArg Data.cls (Option.some.inj hcd)
  have I : PySem.W.InstAt hh e (PySem.HandSPX.excO C t0) C none := ⟨he, rfl, rfl, trivial⟩
  have hsub : PySem.W.Looks (model prog w) hh (isSubtype (.ref C) (.ref C)) true := PySem.W.looks_mroIn X F.mro
  refine PySem.ks_wpAt_Expr_any (PySem.ks_wpAt_MethodCall (PySem.ks_wpAt_super_base (oc := ⟨ccl, cdd, .fields vs, ccs⟩) (env := PySem.W.ksEnv q scope L f (.ref cda) cc) F.sks F.skc (by decide) rfl (X _ _ hf) rfl hp rfl (X _ _ hcode) rfl hvs hfile F.top ?_) (meth_evalA rfl (by show 1 < 30; decide) hline)) (hi := by unfold interactive; rw [show (PySem.W.ksEnv q scope L f (.ref cda) cc).scope.kind = .function from F.kind]; rfl)
  refine PySem.W.ks_loadName_global F.kind F.sks (Calls.loadGlobal_builtin (env := PySem.W.ksEnv q scope L f (.ref cda) cc) (MB.glob.keeps bk) F.mgs (hb1.keeps bk) ((hb2 _ (by decide +kernel)).trans Boot.«super») ⟨rfl, ?_⟩)
  refine wpAny_loadName_free F.kind F.skc rfl ⟨_, X _ _ hcell, rfl⟩ ?_
  rw [har]
  refine wpAny_loadName_local F.kind F.slf hn hm (PySem.ks_wpAny_isType_cls hD1 hD2 ⟨rfl, ?_⟩)
  refine PySem.ks_wpAny_call_super hD1 hD2 I.at_ I.cls (fun c z => nomatch z) hsub (fun h2 e2 k2 => ?_)
  have X2 : K.In h2 := X.keeps k2
  have I2 : PySem.W.InstAt h2 e (PySem.HandSPX.excO C t0) C none := ⟨k2 _ _ he, rfl, rfl, trivial⟩
  have hm0 : PySem.W.alongIn K "__init__" ((cd.mro.dropWhile (· != .ref C)).drop 1) = some (some (.builtin "ValueError.__init__")) := by
    have z := F.sup
    unfold PySem.W.ks_superIn at z
    rw [hcd] at z
    exact z
  refine PySem.W.kxs_getMethod PySem.W.kxs_ValueError e2 (PySem.W.looks_opaque X2 F.opq) (l₀ := cd.mro) (fun A Q E s k z => wpAny_bind ((PySem.W.looks_clsIn X2 hcd) A _ E s k (wpAny_pure z))) rfl X2 hm0 (I2.type.andThen (PySem.W.looks_subIn X2 F.sub)) (PySem.W.ks_ne X2 I2 hcd) (by decide +kernel) ?_
  have hu : ∀ t, (⟨h2.push (PySem.W.kxs_mw "ValueError.__init__" e), gg, dd, t, oo⟩ : Shared).heap.get? h2.objs.size = some (PySem.W.kxs_mw "ValueError.__init__" e) := fun _ => Heap.get?_push_at rfl rfl
  have k3 : ∀ b o, hh.get? b = some o → (h2.push (PySem.W.kxs_mw "ValueError.__init__" e)).get? b = some o := fun b o z => Heap.get?_push_of_some _ (k2 b o z)
  refine PySem.W.kxs_callWith (i := "ValueError.__init__") (x := e) rfl (Calls.evalArgs_plain (Calls.spliced_cons (Calls.Constant_str (k := j) (pos := p2) (Calls.spliced_nil ⟨hu _, ?_⟩))))
  refine call_mw F.ex (X.keeps k3) (k3 _ _ he) (hu 0) (by rw [sizeLine_eq]; show 1 ≤ _; omega) (fun h4 t4 k4 e4 => hq h4 t4 _ (fun b o hb z => k4 b o hb (k3 b o z)) e4 ?_)
  exact Nat.le_of_lt (Heap.lt_size (k4 _ _ (Nat.ne_of_gt (Heap.lt_size he)) (Heap.get?_push_of_some _ e2)))
end
end Py

/-! An own exception's __init__, called. -/
set_option Elab.async false
set_option linter.all false
set_option maxRecDepth 100000
set_option maxHeartbeats 1000000
noncomputable section
namespace Py
open PySem PySem.Spec PyProof.Rows L2
theorem look_app {ν : Type} {n k : Str} {v : ν} : ∀ {l : List (Str × ν)}, (l ++ [(k, v)]).lookup n = match l.lookup n with
    | some u => some u
    | none => if n = k then some v else none
  | [] => by
    show List.lookup n [(k, v)] = if n = k then some v else none
    rw [List.lookup_cons]
    by_cases h : n = k
    · rw [if_pos h, h, beq_self_eq_true]
    · rw [if_neg h, show (n == k) = false by simpa using h]
      rfl
  | (a, u) :: l => by
    rw [List.cons_append, List.lookup_cons, List.lookup_cons]
    cases n == a with
    | true => rfl
    | false => exact look_app (l := l)
theorem look_no {ν : Type} {n : Str} : ∀ {ns : List Str} {us : List ν}, n ∉ ns → (ns.zip us).reverse.lookup n = none
  | [], us, _ => by simp
  | _ :: _, [], _ => by simp
  | k :: ns, u :: us, h => by
    rw [List.zip_cons_cons, List.reverse_cons, look_app, look_no fun z => h (List.mem_cons_of_mem _ z), if_neg fun z => h (by rw [z]; exact List.mem_cons_self)]
theorem look_rev {ν : Type} {n : Str} {v : ν} : ∀ {ns : List Str} {us : List ν} {i : Nat}, ns.Nodup → ns[i]? = some n → us[i]? = some v → (ns.zip us).reverse.lookup n = some v
  | [], _, _, _, e, _ => by simp at e
  | _ :: _, [], _, _, _, e => by simp at e
  | k :: ns, u :: us, i, nd, e1, e2 => by
    obtain ⟨h1, h2⟩ := List.nodup_cons.mp nd
    rw [List.zip_cons_cons, List.reverse_cons, look_app]
    cases i with
    | zero =>
      have e1 : k = n := by simpa using e1
      have e2 : u = v := by simpa using e2
      subst e1 e2
      rw [look_no h1, if_pos rfl]
    | succ i => rw [look_rev h2 (by simpa using e1) (by simpa using e2)]
theorem bind_posX {name qual : Str} {args : List Arg} {kwd : List (Option PySem.Expr)} {dfl : List PySem.Expr} {body : List Stmt} {scope : Scope} {cl : List (Str × Addr)} {dV kV doc pm cdv ct : Value} {an : Option Addr} {us : List Value} (hl : us.length = args.length) (nd : (args.map (·.arg)).Nodup) :
    bindArgs (PySem.W.fnX name qual ⟨[], args, none, [], kwd, none, dfl⟩ body scope cl dV kV doc pm an cdv ct) ⟨us, []⟩ = (seqItems? dV >>= fun _ => pure ((args.map (·.arg)).zip us)) :=
  bind_pos (name := name) (qual := qual) (body := body) (scope := scope) (kV := kV) (doc := doc) (pm := pm) (cdv := cdv) (ct := ct) (an := an) hl nd
/-- a class over ValueError whose __init__ says super().__init__('..'), then stores its parameters -/
structure XIni (P : Program) (K : PySem.W.Frag) (mg : Str → Option Value) (C : Addr) (fs : List Str) : Prop where
  ini : ∃ (f cda cc : Addr) (scope : Scope) (oc : Value) (od : Option Addr) (osl : Array (Option Value)) (name qual : Str) (args : List Arg) (kwd : List (Option PySem.Expr)) (dfl : List PySem.Expr) (st0 st1 : Stmt) (sts : List Stmt) (kV doc pm ct : Value) (an : Option Addr) (fps : List (Str × Str)) (p0 p1 apos p2 cpos epos : Pos) (msg : Str) (j : Nat),
    PySem.W.findIn K (.ref C) "__init__" = some (some (.ref f)) ∧ PySem.W.typeIn K (.ref f) = some (.type "function") ∧ K.lookup f = some ⟨oc, od, .func (PySem.W.ksFn name qual ⟨[], args, none, [], kwd, none, dfl⟩ (st0 :: st1 :: sts) scope .none kV doc pm an (.ref cda) ct cc), osl⟩ ∧
    PySem.W.codeIn K (.ref cda) qual = true ∧ XFn P K mg C f cda cc scope ∧ scope.isCoroutine = false ∧ scope.isGenerator = false ∧ (∀ x ∈ scope.names, x.2 ≠ .cell) ∧ (args.map (·.arg)).Nodup ∧ args.map (·.arg) = ("self" : Str) :: fps.map (·.2) ∧ (∀ a ∈ args, scope.names.lookup a.arg = some .local ∧ (a.arg == ("__debug__" : Str)) = false) ∧
    (apos.endLine == cpos.line) = true ∧ st0 = .Expr (.Call (.Attribute (.Call (.Name "super" p0) [] [] p1) "__init__" apos) [.Constant (.str msg) j p2] [] cpos) epos ∧ FldAsgs "self" (st1 :: sts) fps ∧ fps.map (·.1) = fs ∧ fs.length ≤ 100 ∧ ∀ g ∈ fs, PySem.W.findIn K (.ref C) g = some none
/-- the fields, the last one first -/
def excL : List Str → List V → List (Str × V) → List (Str × V)
  | f :: fs, v :: vs, acc => excL fs vs ((f, v) :: acc)
  | _, _, acc => acc
theorem excL_rel {m : Str → Option Value} : ∀ {fps : List (Str × Str)} {vs : List V} {acc : List (Str × V)} {mA : Str → Option Value}, (∀ g, RelO (acc.lookup g) (mA g)) → vs.length = fps.length → (∀ (i : Nat) p v, fps[i]? = some p → vs[i]? = some v → ∃ u, m p.2 = some u ∧ RelV v u) → ∀ g, RelO ((excL (fps.map (·.1)) vs acc).lookup g) (putAll m fps mA g)
  | [], vs, acc, mA, h, hl, _ => by
    intro g
    have e : vs = [] := List.eq_nil_of_length_eq_zero hl
    subst e
    exact h g
  | _ :: _, [], _, _, _, hl, _ => by cases hl
  | (f, p) :: fps, v :: vs, acc, mA, h, hl, hm => by
    obtain ⟨u, e, r⟩ := hm 0 (f, p) v rfl rfl
    refine excL_rel (fps := fps) (vs := vs) (acc := (f, v) :: acc) (mA := fun y => if y = f then m p else mA y) (fun g => ?_) (by simpa using hl) (fun i q w e1 e2 => hm (i + 1) q w (by simpa using e1) (by simpa using e2))
    have z := relO_put (f := f) r h g
    show RelO (List.lookup g ((f, v) :: acc)) (if g = f then m p else mA g)
    have e : m p = some u := e
    rw [e]
    exact z
section
variable {prog : Program} {w : World} {A : Around} {K : PySem.W.Frag} {C e : Addr} {R : Result → Shared → Prop}
theorem init_code {mg : Str → Option Value} {base : Heap} {fs : List Str} {s : Shared} {us : List Value} {vs : List V} {t0 : Addr} (T : XIni prog K mg C fs) (MB : Mod K mg base) (bk : ∀ b o, base.get? b = some o → s.heap.get? b = some o) (hbe : base.get? e = none) (hroom : A.depth < recursionLimit) (he : s.heap.get? e = some (PySem.HandSPX.excO C t0)) (r : Vals vs us) (hl : vs.length = fs.length) {f : Addr} (hf : PySem.W.findIn K (.ref C) "__init__" = some (some (.ref f)))
    (hq : ∀ h1 t1 tk dx mA, (∀ b o, b ≠ e → s.heap.get? b = some o → h1.get? b = some o) → h1.get? e = some (excOD C t1 (some dx)) → s.heap.objs.size ≤ dx → dx ≠ e → h1.Ns1 dx mA → (∀ g, RelO ((excL fs vs []).lookup g) (mA g)) → R (.ok (.ret .none)) ⟨h1, s.gens, s.drawn, tk, s.os⟩) :
    codeAny (model prog w) A (.call (.ref f) ⟨.ref e :: us, []⟩) R s := by
  obtain ⟨f', cda, cc, scope, oc, od, osl, name, qual, args, kwd, dfl, st0, st1, sts, kV, doc, pm, ct, an, fps, p0, p1, apos, p2, cpos, epos, msg, j, hf', hty, hK, hcd, F, hco, hgen, hcell, nd, hargs, hloc, hline, hst, hfl, hfs, h100, hno⟩ := T.ini
  rw [hf] at hf'
  cases hf'
  have X : K.In s.heap := MB.kin.keeps bk
  have hargs2 : (Value.ref e :: us).length = args.length := by
    have z := congrArg List.length hargs
    rw [List.length_map, List.length_cons, List.length_map] at z
    have z2 := congrArg List.length hfs
    rw [List.length_map] at z2
    rw [List.length_cons, ← r.length]
    omega
  have hbind : BindsTo s (PySem.W.ksFn name qual ⟨[], args, none, [], kwd, none, dfl⟩ (st0 :: st1 :: sts) scope .none kV doc pm an (.ref cda) ct cc) ⟨.ref e :: us, []⟩ ((args.map (·.arg)).zip (.ref e :: us)) := .of_eq ((bind_posX hargs2 nd).trans (pure_bind _ _))
  have hlc : ∀ y ∈ (args.map (·.arg)).zip (Value.ref e :: us), scope.names.lookup y.1 = some .local := fun y hy => by
    obtain ⟨a, ha, z⟩ := List.mem_map.mp (List.of_mem_zip (a := y.1) (b := y.2) hy).1
    rw [← z]
    exact (hloc a ha).1
  refine PySem.ks_codeAny_call_defAt (body := st0 :: st1 :: sts) hroom (X _ _ hK) rfl (MB.nolimit.keeps bk) (PySem.W.codeRec_of X hcd) rfl hbind hcell hlc (fun h₀ hns kp => ?_) hco hgen F.kind
  subst hst
  generalize hm : (fun x => List.lookup x ((args.map (·.arg)).zip (Value.ref e :: us)).reverse) = m at hns
  have m0 : m "self" = some (.ref e) := by
    rw [← hm]
    exact look_rev (i := 0) nd (by rw [hargs]; rfl) rfl
  have mi : ∀ (i : Nat) p v, fps[i]? = some p → vs[i]? = some v → ∃ u, m p.2 = some u ∧ RelV v u := fun i p v e1 e2 => by
    obtain ⟨u, e3, ru⟩ := r.get e2
    refine ⟨u, ?_, ru⟩
    rw [← hm]
    exact look_rev (i := i + 1) nd (by rw [hargs]; simp [e1]) (by simpa using e3)
  have hvl : vs.length = fps.length := by
    have z2 := congrArg List.length hfs
    rw [List.length_map] at z2
    omega
  have S : ∀ {env : Env}, env.scope = scope → StOk K C env m "self" e fps := fun {env} es => by
    refine ⟨⟨by rw [es]; exact F.slf, m0, by decide +kernel⟩, fun p hp => ?_⟩
    obtain ⟨i, hi, ei⟩ := List.getElem_of_mem hp
    have ei' : fps[i]? = some p := by rw [List.getElem?_eq_getElem hi, ei]
    obtain ⟨u, e3, _⟩ := mi i p vs[i] ei' (List.getElem?_eq_getElem (by omega))
    have hmem : p.2 ∈ args.map (·.arg) := by
      rw [hargs]
      exact List.mem_cons_of_mem _ (List.mem_map_of_mem hp)
    obtain ⟨a, ha, z⟩ := List.mem_map.mp hmem
    refine ⟨by rw [es, ← z]; exact (hloc a ha).1, ⟨u, e3⟩, by rw [← z]; exact (hloc a ha).2, hno _ (by rw [← hfs]; exact List.mem_map_of_mem hp)⟩
  have bk0 : ∀ b o, base.get? b = some o → h₀.get? b = some o := fun b o z => kp b o (bk b o z)
  have sz0 : s.heap.objs.size < h₀.objs.size := hns.lt
  refine PySem.ks_wpAt_execs_cons (super_stmt (q := qual) hline F MB bk0 hns m0 (kp _ _ he) (fun h1 t1 tk k1 e1 z1 => ?_))
  have Le : s.heap.objs.size ≠ e := Nat.ne_of_gt (Heap.lt_size he)
  have bk1 : ∀ b o, base.get? b = some o → h1.get? b = some o := fun b o z => k1 b o (fun y => by rw [y, hbe] at z; cases z) (bk0 b o z)
  have X1 : K.In h1 := MB.kin.keeps bk1
  have hn1 : h1.Ns s.heap.objs.size m := by
    obtain ⟨o, es, ep, ho, hr⟩ := hns
    exact ⟨o, es, ep, k1 _ _ Le ho, hr⟩
  cases hfl with
  | @cons f1 v1 q1 q2 q3 q4 _ fps' hr =>
  have S1 := S (env := callEnv (PySem.W.ksFn name qual ⟨[], args, none, [], kwd, none, dfl⟩ (.Expr (.Call (.Attribute (.Call (.Name "super" p0) [] [] p1) "__init__" apos) [.Constant (.str msg) j p2] [] cpos) epos :: .Assign [.Attribute (.Name "self" q1) f1 q2] (.Name v1 q3) q4 :: sts) scope .none kV doc pm an (.ref cda) ct cc) s.heap.objs.size f) rfl
  obtain ⟨cd, hcd1, hm1, hh1⟩ := exc_cls F.ex
  obtain ⟨l1, ⟨u, hu⟩, d1, no⟩ := S1.at_ (f1, v1) List.mem_cons_self
  obtain ⟨l2, e2, d2⟩ := S1.me
  refine wpAt_of_wpAny (wpAny_execs_cons (plainObj_wpAny_Assign_Attribute (ldLoc F.kind l1 hn1 hu d1 (ldLoc F.kind l2 hn1 e2 d2 ?_))))
  refine PySem.W.set_plain X1 (ox := PySem.HandSPX.excO C t1) (od := none) ⟨e1, rfl, rfl, trivial⟩ F.ex.sa ?_
  refine PySem.HandSPX.exc_osa X1 e1 hcd1 hm1 hh1 no (fun h2 t2 dx k2 zd nd2 e3 hn2 => ?_)
  have zd : h1.objs.size ≤ dx := zd
  have kd : s.heap.objs.size < dx := by omega
  have hn3 : h2.Ns s.heap.objs.size m := by
    obtain ⟨o, es, ep, ho, hr⟩ := hn1
    exact ⟨o, es, ep, k2 _ _ Le ho, hr⟩
  have hKd : ∀ o, K.lookup dx ≠ some o := fun o z => by
    have : dx < s.heap.objs.size := Heap.lt_size (X _ _ z)
    omega
  refine flds_rest F.ex F.kind hr S1.tl (s := ⟨h2, s.gens, s.drawn, t2, s.os⟩) (dx := dx) (nl := [f1]) (MB.kin.keeps fun b o z => k2 b o (fun y => by rw [y, hbe] at z; cases z) (bk1 b o z)) hKd hn3 (Nat.ne_of_lt kd) nd2 e3 hn2 (Within.cons f1 u Within.nil) ?_ (fun h4 t4 k4 n4 => ?_)
  · have z2 := congrArg List.length hfs
    rw [List.length_map, List.length_cons] at z2
    rw [List.length_singleton]
    omega
  · refine hq h4 t1 t4 dx _ (fun b o hb z => k4 b o (fun y => by
      rw [y] at z
      have : dx < s.heap.objs.size := Heap.lt_size z
      omega) (k2 b o hb (k1 b o hb (kp b o z)))) (k4 _ _ (Ne.symm nd2) e3) (Nat.le_of_lt kd) nd2 n4 ?_
    rw [← hfs]
    have := excL_rel (m := m) (fps := (f1, v1) :: fps') (vs := vs) (acc := []) (mA := fun _ => none) (fun _ => True.intro) hvl mi
    unfold putAll at this
    rw [hu] at this
    exact this
end
end Py

/-! Calls, as expressions. -/
set_option Elab.async false
set_option linter.all false
set_option maxRecDepth 100000
noncomputable section
namespace Py
open PySem PySem.Spec PyProof.Rows L2
/-- what the module says of its defs -/
structure Gx (T : Tb) (K : PySem.W.Frag) (mg : Str → Option Value) : Prop where
  fn : ∀ g d, T.P.globs.get g = some (.fn d) → ∃ Dt x, T.dt.get d = some Dt ∧ T.gn[g]? = some x ∧ Dt.at_ = (x, none) ∧ mg x = some (.ref (He.ga K x)) ∧ PySem.W.keepIn K (.ref (He.ga K x)) = true
  mt : ∀ c Kc m d, T.P.clss.get c = some Kc → Kc.exc = none → lookN m Kc.meths = some d → ∃ Dt n, T.dt.get d = some Dt ∧ T.an[m]? = some n ∧ Meth K (cAdr T K c) n (He.fAd K Dt.at_)
  mkr : ∀ c Kc d, T.P.clss.get c = some Kc → Kc.exc = none → Kc.init = some d → ∃ Dt, T.dt.get d = some Dt ∧ Mk K (cAdr T K c) (He.fAd K Dt.at_)
/-- own exceptions that may be raised -/
def Rx (T : Tb) (P : Program) (K : PySem.W.Frag) (mg : Str → Option Value) : Prop := ∀ c Kc f fs, T.P.clss.get c = some Kc → Kc.exc = some (f :: fs) → ∃ ns, namesB T.an (f :: fs) ns = true ∧ XIni P K mg (cAdr T K c) ns
/-- what the calls do -/
structure CallsOk (T : Tb) (K : PySem.W.Frag) (tl : List (Addr × Str)) (P : Program) (w : World) (mg : Str → Option Value) (base : Heap) (C : CallH) (k : Nat) : Prop where
  gx : Gx T K mg
  rx : Rx T P K mg
  dfn : ∀ d D Dt ks kn, T.P.dfns.get d = some D → T.dt.get d = some Dt → namesB T.an kn ks = true → Does T K tl P w mg base k (.ref (He.fAd K Dt.at_)) ks (fun xs ys h => callDef T.P C d xs kn ys h)
  clo : ∀ (A : Around) (outer : List Env) (s : Shared) (H : Hp) (ρ : List Addr) (h : OHeap) (Q : VK) (E : XK) (a d : Nat) (caps : List (Nat × Nat)) (p : Addr), Room k A → A.guards = some [] → Env0 P w K mg base A outer s H → HR T K tl [] ρ h H → h.get a = some (.clo d caps) → ρ[a]? = some p → caps ≠ [] →
    RunC T K tl Q E (C d [] caps h) ρ h H → codeAny (model P w) A (.call (.ref p) ⟨[], []⟩) (L2.CR (L2.CX P w) outer P w H s Q E) s
section
variable {T : Tb} {X : Cx} {tl : List (Addr × Str)} {own : List Nat} {W : WX} {σ : L2.St} {ρ ρ' ρ1 : List Addr} {h h' h1 : OHeap} {H H' H1 : Hp} {fr : Py.Frame} {K : PySem.W.Frag} {pins : List (Addr × Obj)} {s s1 : Shared}
/-- the strongest that a callee may be asked -/
def okQ (T : Tb) (K : PySem.W.Frag) (tl : List (Addr × Str)) (r : R PV) (ρ : List Addr) (h : OHeap) (H : Hp) : VK := fun y H1 => ∃ v h1 ρ1, r = .ok v h1 ∧ Ext K [] ρ h H ρ1 h1 H1 ∧ HR T K tl [] ρ1 h1 H1 ∧ VR T K ρ1 H1 v y
def exQ (T : Tb) (K : PySem.W.Frag) (tl : List (Addr × Str)) (r : R PV) (ρ : List Addr) (h : OHeap) (H : Hp) : XK := fun cls d H1 => ∃ e h1 ρ1 p c fs, r = .ex e h1 ∧ cls = .ref (cAdr T K c) ∧ d = some p ∧ Ext K [] ρ h H ρ1 h1 H1 ∧ HR T K tl [] ρ1 h1 H1 ∧ h1.get e = some (.exc c fs) ∧ ρ1[e]? = some p
theorem runC_best {r : R PV} (hn : r ≠ .no) : RunC T K tl (okQ T K tl r ρ h H) (exQ T K tl r ρ h H) r ρ h H := by
  cases r with
  | ok v h1 => exact fun ρ' H' y a b c => ⟨v, h1, ρ', rfl, a, b, c⟩
  | ex e h1 => exact fun ρ' H' p c fs a b g d => ⟨e, h1, ρ', p, c, fs, rfl, rfl, rfl, a, b, g, d⟩
  | no => exact absurd rfl hn
theorem Run.no_ne {α : Type} {r : R α} {post : α → List Addr → OHeap → Hp → Prop} (q : Run T X tl own W σ r post ρ h H) : r ≠ .no := fun e => by rw [e] at q; exact q
/-- the callee came back -/
theorem back_ok {r : R PV} {u : Value} {s' : Shared} (I : Inv X pins σ H s) (R : HR T X.K tl own ρ h H) (Ev : EnvR T X own ρ h H fr σ) (hq : CE X.stack X.prog X.w (trkH s.heap ρ own H) s (okQ T X.K tl r ρ h (trkH s.heap ρ own H)) u s') :
    ∃ v h1 ρ1 y H2, r = .ok v h1 ∧ Inv X pins σ H2 s' ∧ RelV y u ∧ Ext X.K [] ρ h H ρ1 h1 H2 ∧ HR T X.K tl own ρ1 h1 H2 ∧ VR T X.K ρ1 H2 v y := by
  have S := Ev.celS I
  obtain ⟨y, H1, os, bare, un, hok, ru, v, h1, ρ1, er, e1, R1, rv⟩ := hq
  have f := un.frzs
  obtain ⟨R2, tp⟩ := untrack (S.own' f e1) e1.pre R1
  exact ⟨v, h1, ρ1, y, _, er, I.call' (ch := []) os (S.un un hok) (S.hok1 f hok) bare (fun _ z => by cases z), ru, S.ext R tp e1, R2, rv.mono (List.prefix_refl _) tp⟩
theorem back_ex {r : R PV} {e' : Value} {s' : Shared} (tk : Takes X W) (I : Inv X pins σ H s) (R : HR T X.K tl own ρ h H) (Ev : EnvR T X own ρ h H fr σ) (hq : L2.CX X.prog X.w X.stack (trkH s.heap ρ own H) s (exQ T X.K tl r ρ h (trkH s.heap ρ own H)) e' s')
    {α : Type} {post : α → List Addr → OHeap → Hp → Prop} {rr : Py.R α} (hrr : ∀ e h1, r = .ex e h1 → rr = .ex e h1) (q : Run T X tl own W σ rr post ρ h H) : X.xe e' s' := by
  have S := Ev.celS I
  obtain ⟨a, B, H1, cls, d, ea, fl, hok, ub, na, os, ag, e, h1, ρ1, p, c, fs, er, e1, e2, x1, R1, hg, hp⟩ := hq
  subst e1 e2
  have f := ub.frzs
  obtain ⟨R2, tp⟩ := untrack (S.own' f x1) x1.pre R1
  have na' : untH ρ own H1 a = none := by
    by_cases z : isC ρ own a
    · exact unt_at z
    · rw [unt_ne z]
      exact na
  rw [hrr e h1 er] at q
  refine tk e' s' (XE.of_call (E := fun cls d H2 => W cls d σ H2) I (fun _ _ _ z => z) ⟨a, B, untH ρ own H1, _, _, ea, fl, S.hok1 f hok, S.ub ub hok, na', os, ag, ?_⟩)
  exact q ρ1 _ p c fs (S.ext R tp x1) R2 hg hp
/-- a call, its promise told of this state -/
theorem call_at {f : Value} {us : List Value} {kw : List (Str × Value)} {r : R PV} {Q : VK} (tk : Takes X W) (I : Inv X pins σ H s) (R : HR T X.K tl own ρ h H) (Ev : EnvR T X own ρ h H fr σ)
    (dz : RunC T X.K tl (okQ T X.K tl r ρ h (trkH s.heap ρ own H)) (exQ T X.K tl r ρ h (trkH s.heap ρ own H)) r ρ h (trkH s.heap ρ own H) → codeAny (model X.prog X.w) X.A (.call f ⟨us, kw⟩) (L2.CR (L2.CX X.prog X.w) X.stack X.prog X.w (trkH s.heap ρ own H) s (okQ T X.K tl r ρ h (trkH s.heap ρ own H)) (exQ T X.K tl r ρ h (trkH s.heap ρ own H))) s)
    (q : Run T X tl own W σ r (fun v ρ' h' H' => ∀ y, VT T X ρ' h' H' v y → Q y H') ρ h H) : wpAny (model X.prog X.w) X.A (call f us kw) (EP X pins σ Q) X.xe s := by
  refine wpAny_call (codeAny_mono (dz (runC_best q.no_ne)) fun fl s' hq => ?_)
  cases fl with
  | error e => exact back_ex tk I R Ev hq (fun _ _ z => z) q
  | ok fl =>
    cases fl with
    | ret u =>
      obtain ⟨v, h1, ρ1, y, H2, er, J, ru, e1, R1, rv⟩ := back_ok I R Ev hq
      rw [er] at q
      exact ⟨y, H2, J, ru, q ρ1 H2 e1 R1 y (.inl rv)⟩
    | next => exact False.elim hq
    | brk => exact False.elim hq
    | cont => exact False.elim hq
theorem make_guards {A : Around} {C : Addr} {us : List Value} {kw : List (Str × Value)} (h : A.guards = some []) : (A.under (.builtin "type.__call__" ⟨.ref C :: us, kw⟩)).guards = some [] := by
  first | exact h | simp [Around.under, Code.guards, pushGuards, h, Code.isGuard, guardIds]
/-- a new object of a class, then its __init__ -/
theorem make_at {c : Nat} {f : Addr} {k : Nat} {us ws : List Value} {vs zs : List V} {xs ys : List PV} {ks : List Str} {ev : List PV → List PV → OHeap → R PV} {Q : VK} (M : Mk X.K (cAdr T X.K c) f) (dz : Does T X.K tl X.prog X.w X.mg X.base k (.ref f) ks ev) (hr : Room (k + 1) X.A) (hgd : X.A.guards = some []) (tk : Takes X W)
    (I : Inv X pins σ H s) (R : HR T X.K tl own ρ h H) (Ev : EnvR T X own ρ h H fr σ) (r1 : Vals vs us) (r2 : Vals zs ws) (hl : ws.length = ks.length) (rx : VRs T X.K ρ H xs vs) (ry : VRs T X.K ρ H ys zs)
    (q : Run T X tl own W σ (match ev (.obj h.n :: xs) ys (h.push (.ins c [])) with
            | .ok .non h' => (.ok (.obj h.n) h' : Py.R PV)
            | .ex e h' => .ex e h'
            | _ => .no) (fun v ρ' h' H' => ∀ y, VT T X ρ' h' H' v y → Q y H') ρ h H) : wpAny (model X.prog X.w) X.A (call (.ref (cAdr T X.K c)) us (ks.zip ws)) (EP X pins σ Q) X.xe s := by
  have hn0 : H s.heap.objs.size = none := I.hok.fresh (Nat.le_refl _)
  have hn1 : H (s.heap.objs.size + 1) = none := I.hok.fresh (Nat.le_succ _)
  have I2 := Inv.made (C := cAdr T X.K c) I
  generalize hs2 : ({ s with heap := (s.heap.push PySem.W.emptyDict).push (PySem.W.instObj (cAdr T X.K c) s.heap.objs.size) } : Shared) = s2 at I2
  have ne01 : s.heap.objs.size + 1 ≠ s.heap.objs.size := Nat.succ_ne_self _
  have R0 : HR T X.K tl own ρ h (upd H s.heap.objs.size (.own (s.heap.objs.size + 1))) := R.laid hn0
  have x0 : Ext X.K [] ρ h H ρ h (upd H s.heap.objs.size (.own (s.heap.objs.size + 1))) := Ext.laid hn0
  have hn1' : upd H s.heap.objs.size (.own (s.heap.objs.size + 1)) (s.heap.objs.size + 1) = none := by rw [upd_ne ne01]; exact hn1
  have x1 : Ext X.K [] ρ h (upd H s.heap.objs.size (.own (s.heap.objs.size + 1))) (ρ ++ [s.heap.objs.size + 1]) (h.push (.ins c [])) (upd (upd H s.heap.objs.size (.own (s.heap.objs.size + 1))) (s.heap.objs.size + 1) (.ins (cAdr T X.K c) s.heap.objs.size [])) := Ext.push hn1'
  have R1 := R0.push (o := .ins c []) hn1' (fun z => z) ⟨s.heap.objs.size, [], upd_same, rfl⟩
  have xx := x0.tr x1
  have Ev1 := Ev.ext xx
  have hev : ev (.obj h.n :: xs) ys (h.push (.ins c [])) ≠ .no := fun z => by rw [z] at q; exact q
  have S := Ev1.celS I2
  obtain ⟨R3, x3⟩ := S.track R1
  have vself : VR T X.K (ρ ++ [s.heap.objs.size + 1]) (upd (upd H s.heap.objs.size (.own (s.heap.objs.size + 1))) (s.heap.objs.size + 1) (.ins (cAdr T X.K c) s.heap.objs.size [])) (.obj h.n) (.ref (s.heap.objs.size + 1)) := ⟨_, rfl, at_new R⟩
  have hlz : (Value.ref (s.heap.objs.size + 1) :: us) = Value.ref (s.heap.objs.size + 1) :: us := rfl
  refine wpAny_call (make_map (f := f) I.kIn M.makes M.init (beq_iff_eq.mp M.fn) ?_)
  rw [hs2]
  refine codeAny_mono (dz (X.A.under (.builtin "type.__call__" ⟨.ref (cAdr T X.K c) :: us, ks.zip ws⟩)) X.stack s2 _ (Value.ref (s.heap.objs.size + 1) :: us) ws (V.ref (s.heap.objs.size + 1) :: vs) zs (.obj h.n :: xs) ys _ _ _ _ (hr.make _ _ _) (make_guards hgd)
    ((S.env0 I2.env0).make _ _ _) (.cons rfl r1) r2 hl R3 (VRs.cons (vself.ext x3) ((rx.ext xx).ext x3)) ((ry.ext xx).ext x3) (runC_best hev)) fun fl s' hq => ?_
  cases fl with
  | error e =>
    refine back_ex (r := ev (.obj h.n :: xs) ys (h.push (.ins c []))) tk I2 R1 Ev1 hq (fun e h1 z => by rw [z]) (q.at xx)
  | ok fl =>
    cases fl with
    | ret u =>
      obtain ⟨v, h1, ρ1, y, H2, er, J, ru, e1, R4, rv⟩ := back_ok I2 R1 Ev1 hq
      rw [er] at q
      cases v with
      | non =>
        cases (show y = .non from rv)
        cases ru
        refine ⟨rfl, .ref (s.heap.objs.size + 1), H2, J, rfl, ?_⟩
        exact q ρ1 H2 (xx.tr e1) R4 _ (.inl ⟨_, rfl, pre_get e1.pre (at_new R)⟩)
      | _ => exact q.elim
    | next => exact False.elim hq
    | brk => exact False.elim hq
    | cont => exact False.elim hq
end
end Py

/-! Calls, written. -/
set_option Elab.async false
set_option linter.all false
set_option maxRecDepth 100000
noncomputable section
namespace Py
open PySem PySem.Spec PyProof.Rows L2
section
variable {T : Tb} {X : Cx} {tl : List (Addr × Str)} {own : List Nat} {W : WX} {σ : L2.St} {ρ ρ' ρ1 : List Addr} {h h' h1 : OHeap} {H H' H1 : Hp} {fr : Py.Frame} {K : PySem.W.Frag} {pins : List (Addr × Obj)} {s s1 : Shared} {C : CallH} {k : Nat}
variable {a o : PySem.Expr} {ea : OHeap → Py.R PV} {eas ebs : OHeap → Py.R (List PV)} {es : List PySem.Expr} {kws : List Keyword} {p pos apos : Pos} {x : Str} {g : Nat}
/-- the value of a name that is called, and what its call does -/
theorem glob_call (F : Fx T X.K X.mg) (CO : CallsOk T X.K tl X.prog X.w X.mg X.base C k) (hr : Room (k + 1) X.A) (hgd : X.A.guards = some []) (tk : Takes X W) (hx : T.gn[g]? = some x) {kn : List Nat} {ks : List Str} (hk : namesB T.an kn ks = true)
    (hne : callable T.P g = true) : ∃ u, X.mg x = some u ∧ PySem.W.keepIn X.K u = true ∧ ∀ (pins : List (Addr × Obj)) (s : Shared) (σ : L2.St) (H : Hp) (ρ : List Addr) (h : OHeap) (fr : Py.Frame) (us ws : List Value) (vs zs : List V) (xs ys : List PV) (Q : VK), Inv X pins σ H s → HR T X.K tl own ρ h H →
      EnvR T X own ρ h H fr σ → Vals vs us → Vals zs ws → ws.length = ks.length → VRs T X.K ρ H xs vs → VRs T X.K ρ H ys zs → Run T X tl own W σ (callG T.P C g xs kn ys h) (fun v ρ' h' H' => ∀ y, VT T X ρ' h' H' v y → Q y H') ρ h H →
      wpAny (model X.prog X.w) X.A (call u us (ks.zip ws)) (EP X pins σ Q) X.xe s := by
  unfold callable at hne
  cases e : T.P.globs.get g with
  | none => rw [e] at hne; cases hne
  | some gv =>
    rw [e] at hne
    cases gv with
    | fn d =>
      obtain ⟨Dt, x', h1, h2, h3, h4, h5⟩ := CO.gx.fn g d e
      rw [hx] at h2
      cases h2
      refine ⟨_, h4, h5, fun pins s σ H ρ h fr us ws vs zs xs ys Q I R Ev r1 r2 hl rx ry q => ?_⟩
      have ef : He.fAd X.K Dt.at_ = He.ga X.K x := by rw [h3]; rfl
      have q : Run T X tl own W σ (callDef T.P C d xs kn ys h) (fun v ρ' h' H' => ∀ y, VT T X ρ' h' H' v y → Q y H') ρ h H := by
        unfold callG at q
        rw [e] at q
        exact q
      cases eD : T.P.dfns.get d with
      | none =>
        unfold callDef at q
        rw [eD] at q
        exact q.elim
      | some D =>
        have dz := CO.dfn d D Dt ks kn eD h1 hk
        rw [ef] at dz
        have S := Ev.celS I
        obtain ⟨R0, x0⟩ := S.track R
        exact call_at tk I R Ev (fun best => dz X.A X.stack s _ us ws vs zs xs ys ρ h _ _ (hr.mono (Nat.le_succ k)) hgd (S.env0 I.env0) r1 r2 hl R0 (rx.ext x0) (ry.ext x0) best) q
    | cls c =>
      obtain ⟨x', h1, h2, h3⟩ := F.cls g c e
      rw [hx] at h1
      cases h1
      dsimp only at hne
      cases eK : T.P.clss.get c with
      | none => rw [eK] at hne; cases hne
      | some Kc =>
        rw [eK] at hne
        dsimp only at hne
        cases ei : Kc.init with
        | none => rw [ei] at hne; cases hne
        | some d =>
          cases ex : Kc.exc with
          | some _ => rw [ei, ex] at hne; cases hne
          | none =>
            obtain ⟨Dt, m1, M⟩ := CO.gx.mkr c Kc d eK ex ei
            have ec : cAdr T X.K c = He.ga X.K x := cAdr_of h2
            refine ⟨_, h3, by rw [← ec]; exact M.kp, fun pins s σ H ρ h fr us ws vs zs xs ys Q I R Ev r1 r2 hl rx ry q => ?_⟩
            unfold callG at q
            rw [e] at q
            dsimp only at q
            rw [eK] at q
            dsimp only at q
            rw [ei, ex] at q
            dsimp only at q
            rw [← ec]
            cases eD : T.P.dfns.get d with
            | none =>
              unfold callDef at q
              rw [eD] at q
              exact q.elim
            | some D =>
              exact make_at (ev := fun xs ys h => callDef T.P C d xs kn ys h) M (CO.dfn d D Dt ks kn eD m1 hk) hr hgd tk I R Ev r1 r2 hl rx ry q
    | val v => cases hne
    | keys ks => cases hne
def callE (Pg : Prog) (C : CallH) (g : Nat) (eas : OHeap → Py.R (List PV)) : OHeap → Py.R PV := fun h => (match callable Pg g with
    | true => (eas h).bind fun xs h => callG Pg C g xs [] [] h
    | false => .no)
theorem se_call (F : Fx T X.K X.mg) (CO : CallsOk T X.K tl X.prog X.w X.mg X.base C k) (hr : Room (k + 1) X.A) (hgd : X.A.guards = some []) (tk : Takes X W) (hx : T.gn[g]? = some x) (hg : Gl X x) (hd : (x == ("__debug__" : Str)) = false) (ha : PA X (a :: es) (tAs T X tl own W fr eas)) (hs : noStar a = true) (hss : es.all noStar = true) :
    PE X (.Call (.Name x p) (a :: es) [] pos) (tE T X tl own W fr (callE T.P C g eas)) := by
  cases hne : callable T.P g with
  | true =>
    obtain ⟨u, hm, hk, run⟩ := glob_call (own := own) F CO hr hgd tk hx (kn := []) (ks := []) rfl hne
    refine ⟨fun pins s σ H Q I ⟨ρ, h, R, Ev, q⟩ => ?_⟩
    unfold callE at q
    rw [hne] at q
    refine wpAny_Call_Name_kw (ld_glob I hg hm ?_ hd)
    refine PySem.W.callWith_K (h₀ := X.base) I.ok.mod.kin hk (thn (ha.run pos pins s σ H (fun vs H1 => ∃ xs ρ1 h1, HR T X.K tl own ρ1 h1 H1 ∧ EnvR T X own ρ1 h1 H1 fr σ ∧ VRs T X.K ρ1 H1 xs vs ∧ Run T X tl own W σ (callG T.P C g xs [] [] h1) (fun v ρ' h' H' => ∀ y, VT T X ρ' h' H' v y → Q y H') ρ1 h1 H1) I
      (Run.twoA R Ev q fun xs ρ1 h1 H1 vs e1 R1 Ev1 rv q1 => ⟨xs, ρ1, h1, R1, Ev1, rv, q1⟩)) fun us s1 ⟨vs, H1, I1, r, xs, ρ1, h1, R1, Ev1, rv, q1⟩ => ⟨I1.kIn, ?_⟩) (star_cons hs) (star_plain hss)
    exact run pins s1 σ H1 ρ1 h1 fr us [] vs [] xs [] Q I1 R1 Ev1 r .nil rfl rv rfl q1
  | false => exact PE.none fun σ H Q ⟨ρ, h, R, Ev, q⟩ => by unfold callE at q; rw [hne] at q; exact q
/-! keywords -/
theorem sk_nil : PK X [] (tAs T X tl own W fr nilE) := ⟨fun pos pins s σ H Q I ⟨ρ, h, R, Ev, q⟩ => pk_nil.run pos pins s σ H Q I (q.fin Ext.refl R [] rfl)⟩
theorem sk_cons {nm : Option Str} {kp : Pos} (ha : PE X a (tE T X tl own W fr ea)) (hr : PK X kws (tAs T X tl own W fr eas)) : PK X (⟨nm, a, kp⟩ :: kws) (tAs T X tl own W fr (consE ea eas)) :=
  ⟨fun pos pins s σ H Q I q => (pk_cons ha hr).run pos pins s σ H Q I (tcons q)⟩
def kwNames (kws : List Keyword) (ks : List Str) : Prop := kws.map (fun k => match k with | ⟨n, _, _⟩ => n) = ks.map some
theorem kw_all {pos : Pos} {env : Env} : ∀ {kws : List Keyword} {ks : List Str}, kwNames kws ks → (backToKw pos (keywordEach kws env)).all (·.1.isSome) = true ∧ (backToKw pos (keywordEach kws env)).filterMap (·.1) = ks ∧ (backToKw pos (keywordEach kws env)).any (·.1.isNone) = false
  | [], [], _ => ⟨rfl, rfl, rfl⟩
  | [], _ :: _, h => nomatch h
  | _ :: _, [], h => nomatch h
  | ⟨n, e, q⟩ :: kws, x :: ks, h => by
    have h' : n :: kws.map (fun k => match k with | ⟨n, _, _⟩ => n) = some x :: ks.map some := h
    obtain ⟨e1, e2⟩ := List.cons.inj h'
    subst e1
    obtain ⟨i1, i2, i3⟩ := kw_all (pos := pos) (env := env) (kws := kws) (ks := ks) e2
    refine ⟨?_, ?_, ?_⟩
    · show (true && (backToKw pos (keywordEach kws env)).all (·.1.isSome)) = true
      rw [i1]; rfl
    · show x :: (backToKw pos (keywordEach kws env)).filterMap (·.1) = x :: ks
      rw [i2]
    · show (false || (backToKw pos (keywordEach kws env)).any (·.1.isNone)) = false
      rw [i3]; rfl
def callkE (Pg : Prog) (C : CallH) (g : Nat) (kn : List Nat) (ebs : OHeap → Py.R (List PV)) : OHeap → Py.R PV := fun h => (match callable Pg g with
    | true => (ebs h).bind fun ys h => callG Pg C g [] kn ys h
    | false => .no)
theorem se_callk {kn : List Nat} {ks : List Str} (F : Fx T X.K X.mg) (CO : CallsOk T X.K tl X.prog X.w X.mg X.base C k) (hr : Room (k + 1) X.A) (hgd : X.A.guards = some []) (tk : Takes X W) (hx : T.gn[g]? = some x) (hg : Gl X x) (hd : (x == ("__debug__" : Str)) = false) (hk : namesB T.an kn ks = true) (hkw : kwNames kws ks)
    (ha : PK X kws (tAs T X tl own W fr ebs)) (hlen : ∀ h ys h', ebs h = .ok ys h' → ys.length = kn.length) : PE X (.Call (.Name x p) [] kws pos) (tE T X tl own W fr (callkE T.P C g kn ebs)) := by
  cases hne : callable T.P g with
  | true =>
    obtain ⟨u, hm, hkp, run⟩ := glob_call (own := own) F CO hr hgd tk hx hk hne
    refine ⟨fun pins s σ H Q I ⟨ρ, h, R, Ev, q⟩ => ?_⟩
    unfold callkE at q
    rw [hne] at q
    obtain ⟨k1, k2, k3⟩ := kw_all (pos := pos) (env := X.env) hkw
    have kl : ks.length = kn.length := by
      have : ∀ (a : List Nat) (b : List Str), namesB T.an a b = true → b.length = a.length := fun a => by
        induction a with
        | nil => intro b e; cases b with
          | nil => rfl
          | cons _ _ => cases e
        | cons i a ih => intro b e; cases b with
          | nil => cases e
          | cons y b =>
            unfold namesB at e
            rw [Bool.and_eq_true] at e
            rw [List.length_cons, List.length_cons, ih b e.2]
      exact this kn ks hk
    refine wpAny_Call_Name_kw (ld_glob I hg hm ?_ hd)
    refine PySem.W.callWith_KW0 (h₀ := X.base) I.ok.mod.kin hkp k1 (thn (ha.run pos pins s σ H (fun vs H1 => ∃ ys ρ1 h1, HR T X.K tl own ρ1 h1 H1 ∧ EnvR T X own ρ1 h1 H1 fr σ ∧ VRs T X.K ρ1 H1 ys vs ∧ ys.length = kn.length ∧ Run T X tl own W σ (callG T.P C g [] kn ys h1) (fun v ρ' h' H' => ∀ y, VT T X ρ' h' H' v y → Q y H') ρ1 h1 H1) I ?_)
      fun ws s1 ⟨zs, H1, I1, r, ys, ρ1, h1, R1, Ev1, rv, hyl, q1⟩ => ⟨I1.kIn, ?_⟩) (by show (false || (backToKw pos (keywordEach kws X.env)).any (·.1.isNone)) = false; rw [k3]; rfl)
    · refine ⟨ρ, h, R, Ev, ?_⟩
      cases e : ebs h with
      | ok ys h1 =>
        rw [e] at q
        exact fun ρ1 H1 e1 R1 vs rv => ⟨ys, ρ1, h1, R1, Ev.ext e1, rv, hlen h ys h1 e, Run.at e1 q⟩
      | ex e' h1 => rw [e] at q; exact q
      | no => rw [e] at q; exact q
    · rw [k2]
      exact run pins s1 σ H1 ρ1 h1 fr [] ws [] zs [] ys Q I1 R1 Ev1 .nil r (by rw [← r.length, ← rv.length, hyl, kl]) rfl rv q1
  | false => exact PE.none fun σ H Q ⟨ρ, h, R, Ev, q⟩ => by unfold callkE at q; rw [hne] at q; exact q
/-! o.m(..) -/
def methE (Pg : Prog) (C : CallH) (m : Nat) (eo : OHeap → Py.R PV) (eas : OHeap → Py.R (List PV)) : OHeap → Py.R PV := fun h => (eo h).bind fun x h => (match methOf Pg m x h with
    | some d => (eas h).bind fun xs h => callDef Pg C d (x :: xs) [] [] h
    | none => .no)
theorem FR.none (nd : T.an.Nodup) {f : Nat} {n : Str} (hn : T.an[f]? = some n) : ∀ {fs : List (Nat × PV)} {gs : List (Str × V)}, FR T K ρ H fs gs → lookN f fs = Option.none → gs.lookup n = Option.none
  | [], gs, r, _ => by cases (show gs = [] from r); rfl
  | (g, x) :: r, gs, hr, e => by
    obtain ⟨m, y, q, rfl, hm, r1, r2⟩ := hr
    unfold lookN at e
    split at e
    · cases e
    · rename_i hb
      have hne : (n == m) = false := by
        rw [beq_eq_false_iff_ne]
        intro z
        subst z
        have : f = g := nodup_ix nd hn hm
        subst this
        rw [Nat.beq_refl] at hb
        cases hb
      simp only [List.lookup, hne]
      exact FR.none nd hn r2 e
theorem meth_eval {n : Str} {args : List PySem.Expr} {env : Env} (hb : attributeBase o n env (eval o env) = eval o env) (hs : args.all noStar = true) (hl : args.length < 30) (hline : (apos.endLine == pos.line) = true) :
    eval (.Call (.Attribute o n apos) args [] pos) env = (do
      let ov ← eval o env
      standAt apos.atName
      let (f, first) ← holding [ov] (getMethod ov n (do return (← importBound o env).getD true))
      callWith pos f first (backTo pos (starEach args env)) (backToKw pos (keywordEach [] env))) := by
  have few : methodCallForm (args.length + ([] : List Keyword).length) (backTo pos (starEach args env)) (backToKw pos (keywordEach [] env)) = true := by
    unfold methodCallForm
    rw [star_all hs]
    show (true && true && decide (args.length + 0 + 0 < 30)) = true
    simpa using hl
  show (do
    let ov ← attributeBase o n env (eval o env)
    standAt apos.atName
    methodCall o n apos pos env ov (args.length + ([] : List Keyword).length) (backTo pos (starEach args env)) (backToKw pos (keywordEach [] env))) = _
  rw [hb]
  refine bind_congr fun ov => bind_congr fun _ => ?_
  unfold methodCall
  rw [few]
  unfold calleeOf methodCallPos
  simp [hline]
theorem se_meth {m : Nat} {n : Str} {eo : OHeap → Py.R PV} (F : Fx T X.K X.mg) (CO : CallsOk T X.K tl X.prog X.w X.mg X.base C k) (hr : Room (k + 1) X.A) (hgd : X.A.guards = some []) (tk : Takes X W) (hn : T.an[m]? = some n) (hb : plainBase o = true) (hl : es.length < 29) (hline : (apos.endLine == pos.line) = true)
    (ho : PE X o (tE T X tl own W fr eo)) (ha : PA X (a :: es) (tAs T X tl own W fr eas)) (hs : noStar a = true) (hss : es.all noStar = true) :
    PE X (.Call (.Attribute o n apos) (a :: es) [] pos) (tE T X tl own W fr (methE T.P C m eo eas)) := by
  refine ⟨fun pins s σ H Q I ⟨ρ, h, R, Ev, q⟩ => ?_⟩
  refine PySem.W.methodCall_KW (pl := do return (← importBound o X.env).getD true) (thn (ho.run pins s σ H (fun v H1 => ∃ x ρ1 h1, HR T X.K tl own ρ1 h1 H1 ∧ EnvR T X own ρ1 h1 H1 fr σ ∧ VT T X ρ1 h1 H1 x v ∧ Run T X tl own W σ (match methOf T.P m x h1 with
    | some d => (eas h1).bind fun xs h => callDef T.P C d (x :: xs) [] [] h
    | none => .no) (fun v ρ' h' H' => ∀ y, VT T X ρ' h' H' v y → Q y H') ρ1 h1 H1) I (Run.two R Ev q fun x ρ1 h1 H1 v e1 R1 Ev1 rv q1 => ⟨x, ρ1, h1, R1, Ev1, rv, q1⟩)) fun u s1 ⟨v, H1, I1, rx, x, ρ1, h1, R1, Ev1, rv, q1⟩ => ?_)
    (meth_eval (plainBase_of hb) (by rw [List.all_cons, hs, hss]; rfl) (by rw [List.length_cons]; omega) hline)
  split at q1
  · rename_i d ei
    cases x with
    | obj a' =>
      unfold methOf at ei
      dsimp only at ei
      split at ei
      · rename_i c fs e1
        split at ei
        · rename_i el
          split at ei
          · rename_i Kc eK
            split at ei
            · rename_i ex
              obtain ⟨p', rfl, ep⟩ := id rv.obj
              obtain ⟨dx, fs', hp, rf⟩ := R1.atp e1 ep
              cases (show u = Value.ref p' from rx)
              obtain ⟨Dt, n', hD, hn', M⟩ := CO.gx.mt c Kc m d eK ex ei
              rw [hn] at hn'
              cases hn'
              have cl : L2.Cls X.K (cAdr T X.K c) := F.ins c Kc eK ex
              refine getmeth_ok I1 hp cl M (FR.none F.an hn rf el) ?_
              refine PySem.W.callWith_K (first := [.ref p']) (h₀ := X.base) I1.ok.mod.kin M.kp (thn (ha.run pos pins s1 σ H1 (fun vs H2 => ∃ xs ρ2 h2, HR T X.K tl own ρ2 h2 H2 ∧ EnvR T X own ρ2 h2 H2 fr σ ∧ VRs T X.K ρ2 H2 xs vs ∧ VT T X ρ2 h2 H2 (.obj a') (.ref p') ∧
                Run T X tl own W σ (callDef T.P C d (.obj a' :: xs) [] [] h2) (fun v ρ' h' H' => ∀ y, VT T X ρ' h' H' v y → Q y H') ρ2 h2 H2) I1 (Run.twoA R1 Ev1 q1 fun xs ρ2 h2 H2 vs e2 R2 Ev2 rvs q2 => ⟨xs, ρ2, h2, R2, Ev2, rvs, rv.later e2, q2⟩))
                fun us s2 ⟨vs, H2, I2, r, xs, ρ2, h2, R2, Ev2, rvs, rv2, q2⟩ => ⟨I2.kIn, ?_⟩) (star_cons hs) (star_plain hss)
              cases eD : T.P.dfns.get d with
              | none =>
                unfold callDef at q2
                rw [eD] at q2
                exact q2.elim
              | some D =>
                have dz := CO.dfn d D Dt [] [] eD hD rfl
                have S := Ev2.celS I2
                obtain ⟨R0, x0⟩ := S.track R2
                exact call_at tk I2 R2 Ev2 (fun best => dz X.A X.stack s2 _ (.ref p' :: us) [] (.ref p' :: vs) [] (.obj a' :: xs) [] ρ2 h2 _ _ (hr.mono (Nat.le_succ k)) hgd (S.env0 I2.env0) (.cons rfl r) .nil rfl R0 (VRs.cons ((rv2.cl rfl).ext x0) (rvs.ext x0)) rfl best) q2
            · cases ei
          · cases ei
        · cases ei
      · cases ei
    | _ => cases ei
  · exact q1.elim
/-! f() of a lambda -/
def callvE (Pg : Prog) (C : CallH) (ef : OHeap → Py.R PV) : OHeap → Py.R PV := fun h => (ef h).bind fun x h => callV Pg C x h
theorem se_callv {f : Str} {ef : OHeap → Py.R PV} (CO : CallsOk T X.K tl X.prog X.w X.mg X.base C k) (hr : Room (k + 1) X.A) (hgd : X.A.guards = some []) (tk : Takes X W) (hf : PE X (.Name f p) (tE T X tl own W fr ef)) : PE X (.Call (.Name f p) [] [] pos) (tE T X tl own W fr (callvE T.P C ef)) := by
  refine ⟨fun pins s σ H Q I ⟨ρ, h, R, Ev, q⟩ => ?_⟩
  refine wpAny_Call_Name_kw (thn (hf.run pins s σ H (fun v H1 => ∃ x ρ1 h1, HR T X.K tl own ρ1 h1 H1 ∧ EnvR T X own ρ1 h1 H1 fr σ ∧ VT T X ρ1 h1 H1 x v ∧ Run T X tl own W σ (callV T.P C x h1) (fun v ρ' h' H' => ∀ y, VT T X ρ' h' H' v y → Q y H') ρ1 h1 H1) I
    (Run.two R Ev q fun x ρ1 h1 H1 v e1 R1 Ev1 rv q1 => ⟨x, ρ1, h1, R1, Ev1, rv, q1⟩)) fun u s1 ⟨v, H1, I1, rx, x, ρ1, h1, R1, Ev1, rv, q1⟩ => ?_)
  unfold callV at q1
  split at q1
  · rename_i a'
    split at q1
    · rename_i d caps e1
      split at q1
      · exact q1.elim
      · rename_i hc
        obtain ⟨p', rfl, ep⟩ := rv.obj
        cases (show u = Value.ref p' from rx)
        obtain ⟨fo, hfo, L, cl, pm, cc, ct, hL, efo, _⟩ := R1.atp e1 ep
        obtain ⟨hgo, _⟩ := I1.hok p' _ hfo
        refine PySem.W.callWith_F0 ⟨_, _, _, _, by rw [hgo, efo]⟩ ?_
        have S := Ev1.celS I1
        obtain ⟨R0, x0⟩ := S.track R1
        exact call_at (us := []) (kw := []) tk I1 R1 Ev1 (fun best => CO.clo X.A X.stack s1 _ ρ1 h1 _ _ a' d caps p' (hr.mono (Nat.le_succ k)) hgd (S.env0 I1.env0) R0 e1 ep (fun z => hc z) best) q1
    · exact q1.elim
  · exact q1.elim
end
end Py

/-! try: body / except A as e: .. / except B as e: .. -/
set_option Elab.async false
set_option linter.all false
set_option maxRecDepth 100000
noncomputable section
namespace Py
open PySem PySem.Spec PyProof.Rows L2
section
variable {T : Tb} {X : Cx} {tl : List (Addr × Str)} {own : List Nat} {W : WX} {σ : L2.St} {ρ ρ' ρ1 : List Addr} {h h' h1 : OHeap} {H H' H1 : Hp} {fr : Py.Frame} {K : PySem.W.Frag} {pins : List (Addr × Obj)} {s s1 : Shared}
theorem VT.vr (hc : X.calm = true) {x : PV} {v : V} (r : VT T X ρ h H x v) : VR T X.K ρ H x v := by
  rcases r with r | ⟨z, _⟩
  · exact r
  · rw [hc] at z; cases z
/-- into a try's body -/
theorem EnvR.toTr (hc : X.calm = true) {pn : List (Addr × Obj)} {xe : Value → Shared → Prop} (r : EnvR T X own ρ h H fr σ) : EnvR T (X.tr pn xe) own ρ h H fr σ := by
  refine ⟨fun j n h1 h2 => ?_, r.len, r.dif, r.cel⟩
  have z := r.slot j n h1 h2
  cases q : fr[j]? with
  | none => exact True.intro
  | some sl =>
    rw [q] at z
    cases sl with
    | v x => obtain ⟨y, e1, e2⟩ := z; exact ⟨y, e1, .inl (e2.vr hc)⟩
    | _ => exact z
theorem EnvR.ofTr (hc : X.calm = true) {pn : List (Addr × Obj)} {xe : Value → Shared → Prop} (r : EnvR T (X.tr pn xe) own ρ h H fr σ) : EnvR T X own ρ h H fr σ := by
  refine ⟨fun j n h1 h2 => ?_, r.len, r.dif, r.cel⟩
  have z := r.slot j n h1 h2
  cases q : fr[j]? with
  | none => exact True.intro
  | some sl =>
    rw [q] at z
    cases sl with
    | v x => obtain ⟨y, e1, e2⟩ := z; exact ⟨y, e1, .inl (VT.vr (X := X.tr pn xe) hc e2)⟩
    | _ => exact z
theorem cleanF_get : ∀ {fr : Py.Frame}, cleanF fr = true → ∀ {j : Nat} {x : PV}, fr[j]? = some (.v x) → clean x = true
  | [], _, j, x, e => by simp at e
  | .v y :: r, h, 0, x, e => by
    unfold cleanF at h
    rw [Bool.and_eq_true] at h
    have e : Slot.v y = Slot.v x := by simpa using e
    cases e
    exact h.1
  | .v y :: r, h, j + 1, x, e => by
    unfold cleanF at h
    rw [Bool.and_eq_true] at h
    exact cleanF_get h.2 (by simpa using e)
  | .n :: r, h, 0, x, e => by simp at e
  | .n :: r, h, j + 1, x, e => cleanF_get (fr := r) h (by simpa using e)
  | .c _ :: r, h, 0, x, e => by simp at e
  | .c _ :: r, h, j + 1, x, e => cleanF_get (fr := r) h (by simpa using e)
/-- into an except suite: slot i is the exception's -/
theorem EnvR.toSuite (N : CxN X) (hc : X.calm = true) {i : Nat} {x : Str} (hi : X.N[i]? = some x) {a : Addr} {oe : Obj} {pn : List (Addr × Obj)} (hm : (a, oe) ∈ pn) {e c : Nat} {fs : List (Nat × PV)} {p : Addr} (he : h.get e = some (.exc c fs)) (hp : ρ[e]? = some p)
    (hz : oe.cls = .ref (cAdr T X.K c)) (hd : oe.dict = some p) (hu : ∃ us, oe.data = .fields us) (nc : ∀ b, fr[i]? ≠ some (.c b)) (hlt : i < fr.length) (r : EnvR T X own ρ h H fr σ) : EnvR T (X.suite a pn) own ρ h H (fr.set i (.v (.exv e))) (σ.set i (some (.ref a))) := by
  have hs : i < σ.length := by rw [r.len]; exact (List.getElem?_eq_some_iff.mp hi).1
  refine ⟨fun j n h1 h2 => ?_, by rw [List.length_set]; exact r.len, r.dif, fun b hb => ?_⟩
  · by_cases hj : j = i
    · subst hj
      rw [List.getElem?_set_self hlt]
      exact ⟨.ref a, List.getElem?_set_self hs, .inr ⟨rfl, e, a, oe, p, c, fs, rfl, rfl, hm, he, hp, hz, hd, hu⟩⟩
    · rw [List.getElem?_set_ne (Ne.symm hj)]
      have z := r.slot j n h1 h2
      cases q : fr[j]? with
      | none => exact True.intro
      | some sl =>
        rw [q] at z
        cases sl with
        | n => exact True.intro
        | v y =>
          obtain ⟨u, e1, e2⟩ := z
          exact ⟨u, by rw [List.getElem?_set_ne (Ne.symm hj)]; exact e1, .inl (e2.vr hc)⟩
        | c b =>
          obtain ⟨k1, k2, d, v, k3, k4, k5, k6⟩ := z
          exact ⟨k1, k2, d, v, k3, k4, k5, fun y hy => by rw [List.getElem?_set_ne (Ne.symm hj)]; exact k6 y hy⟩
  · obtain ⟨d, v, k1, k2, k3, k4, k5⟩ := r.cel b hb
    refine ⟨d, v, k1, k2, k3, k4, ?_⟩
    rcases k5 with ⟨j, n, g1, g2, g3, g4, g5, g6⟩ | k5
    · have hj : j ≠ i := fun z => by subst z; exact nc b g5
      exact .inl ⟨j, n, g1, g2, g3, g4, by rw [List.getElem?_set_ne (Ne.symm hj)]; exact g5, fun y hy => by rw [List.getElem?_set_ne (Ne.symm hj)]; exact g6 y hy⟩
    · exact .inr k5
/-- .. and out of it -/
theorem EnvR.ofSuite {i : Nat} {x : Str} (hi : X.N[i]? = some x) (hk : X.env.scope.names.lookup x = some .local) {a : Addr} {pn : List (Addr × Obj)} (hcl : cleanF (fr.set i .n) = true) (r : EnvR T (X.suite a pn) own ρ h H fr σ) : EnvR T X own ρ h H (fr.set i .n) (σ.set i none) := by
  have nc : ∀ b, fr[i]? ≠ some (.c b) := fun b z => by
    have q := r.slot i x hi (.inl hk)
    rw [z] at q
    obtain ⟨_, q, _⟩ := q
    have kl : X.env.kindOf x = some .local := hk
    rcases q with q | q <;> (rw [show X.env.kindOf x = _ from q] at kl; cases kl)
  refine ⟨fun j n h1 h2 => ?_, by rw [List.length_set]; exact r.len, r.dif, fun b hb => ?_⟩
  · by_cases hj : j = i
    · subst hj
      cases hlt : (fr.set j Slot.n)[j]? with
      | none => exact True.intro
      | some sl =>
        have : sl = Slot.n := by
          have hl : j < fr.length := by
            have := (List.getElem?_eq_some_iff.mp hlt).1
            simpa using this
          rw [List.getElem?_set_self hl] at hlt
          exact (Option.some.inj hlt).symm
        rw [this]
        exact True.intro
    · have se : (fr.set i Slot.n)[j]? = fr[j]? := List.getElem?_set_ne (Ne.symm hj)
      rw [se]
      have z := r.slot j n h1 h2
      cases q : fr[j]? with
      | none => exact True.intro
      | some sl =>
        rw [q] at z
        cases sl with
        | n => exact True.intro
        | v y =>
          obtain ⟨u, e1, e2⟩ := z
          exact ⟨u, by rw [List.getElem?_set_ne (Ne.symm hj)]; exact e1, .inl (e2.cl (cleanF_get hcl (by rw [se]; exact q)))⟩
        | c b =>
          obtain ⟨k1, k2, d, v, k3, k4, k5, k6⟩ := z
          exact ⟨k1, k2, d, v, k3, k4, k5, fun y hy => by rw [List.getElem?_set_ne (Ne.symm hj)]; exact k6 y hy⟩
  · obtain ⟨d, v, k1, k2, k3, k4, k5⟩ := r.cel b hb
    refine ⟨d, v, k1, k2, k3, k4, ?_⟩
    rcases k5 with ⟨j, n, g1, g2, g3, g4, g5, g6⟩ | k5
    · have hj : j ≠ i := fun z => by subst z; exact nc b g5
      exact .inl ⟨j, n, g1, g2, g3, g4, by rw [List.getElem?_set_ne (Ne.symm hj)]; exact g5, fun y hy => by rw [List.getElem?_set_ne (Ne.symm hj)]; exact g6 y hy⟩
    · exact .inr k5
end
end Py

/-! The rule of such a try. -/
set_option Elab.async false
set_option linter.all false
set_option maxRecDepth 100000
noncomputable section
namespace Py
open PySem PySem.Spec PyProof.Rows L2
section
variable {T : Tb} {X : Cx} {tl : List (Addr × Str)} {own : List Nat} {W : WX} {σ : L2.St} {ρ ρ' ρ1 : List Addr} {h h' h1 : OHeap} {H H' H1 : Hp} {fr : Py.Frame} {K : PySem.W.Frag} {pins : List (Addr × Obj)} {s s1 : Shared}
abbrev HS := Nat → Py.Frame → OHeap → RS
def hNil : HS := fun e fr h => .ex e fr h
def hCons (Pg : Prog) (g i : Nat) (b : FS) (hs : HS) : HS := fun e fr h => (match h.get e with
    | some (.exc c _) => (match takes Pg c g with
      | some true => (match slotFree fr i with
        | true => (match b (fr.set i (.v (.exv e))) h with
          | .nx fr h => (match cleanF (fr.set i .n) with
            | true => .nx (fr.set i .n) h
            | false => .no)
          | _ => .no)
        | false => .no)
      | some false => hs e fr h
      | none => .no)
    | _ => .no)
/-- clauses and what they compute -/
inductive HsOk (T : Tb) (X : Cx) (tl : List (Addr × Str)) (own : List Nat) : List ExceptHandler → HS → Prop
  | nil : HsOk T X tl own [] hNil
  | cons {g i : Nat} {x n : Str} {np p' : Pos} {b₀ : Stmt} {sts : List Stmt} {fs : FS} {hds : List ExceptHandler} {hs : HS} (hx : T.gn[g]? = some x) (hg : Gl X x) (hd : (x == ("__debug__" : Str)) = false) (hi : X.N[i]? = some n) (hl : X.env.scope.names.lookup n = some .local)
      (hsu : ∀ (a : Addr) (pn : List (Addr × Obj)), QSs (X.suite a pn) (b₀ :: sts) (tS T (X.suite a pn) tl own (fun _ _ _ _ => False) fs)) (r : HsOk T X tl own hds hs) :
      HsOk T X tl own (.ExceptHandler (some (.Name x np)) (some n) (b₀ :: sts) p' :: hds) (hCons T.P g i fs hs)
def tryS (bs : FS) (hs : HS) : FS := fun fr h => (match bs fr h with
    | .ex e fr h => hs e fr h
    | r => r)
theorem ss_try {body : List Stmt} {h₀ : ExceptHandler} {hds : List ExceptHandler} {bs : FS} {hf : HS} {pos : Pos} (hs : X.stack = X.env :: X.outer) (hfr : X.env.frame = some X.env.locals) (N : CxN X) (hc : X.calm = true) (F : Fx T X.K X.mg) (tk : Takes X W)
    (hb : ∀ (W' : WX) (pn : List (Addr × Obj)) (xe : Value → Shared → Prop), Takes (X.tr pn xe) W' → PassesOwn (model X.prog X.w) X.A X.env xe → QSs (X.tr pn xe) body (tS T (X.tr pn xe) tl own W' bs))
    (hh : HsOk T X tl own (h₀ :: hds) hf) : QS X (.Try body (h₀ :: hds) [] [] pos) (tS T X tl own W (tryS bs hf)) := by
  refine ⟨fun pins s σ H D I q => ?_⟩
  obtain ⟨ρ, h, fr, R, Ev, q⟩ := q
  have ok := I.ok
  have frames : X.A.frames = some (X.env :: X.outer) := by rw [ok.frames, hs]
  unfold tryS at q
  -- the wish of an exception of the body: the strongest
  generalize hW' : (fun (cls : Value) (d : Option Addr) (σ' : L2.St) (H' : Hp) => ∃ e fr' h' ρ' p c fs, bs fr h = .ex e fr' h' ∧ cls = .ref (cAdr T X.K c) ∧ d = some p ∧ Ext X.K own ρ h H ρ' h' H' ∧ HR T X.K tl own ρ' h' H' ∧ EnvR T X own ρ' h' H' fr' σ' ∧ h'.get e = some (.exc c fs) ∧ ρ'[e]? = some p : WX) = W'
  refine wpAny_Try_except ?_
  refine wpAny_mono ((hb W' (X.pn ++ pins) (fun u s₁ => wpAny (model X.prog X.w) X.A (noteFrame u X.env) (fun _ s₂ => wpAny (model X.prog X.w) X.A (setFlight u none) (fun _ s₃ =>
      wpAny (model X.prog X.w) X.A (handleBy u X.env (h₀ :: hds)) (SP2 X pins D) X.xe s₃) X.xe s₂) X.xe s₁) ?cat PassesOwn.looking).run [] s σ H
    ⟨fun σ' H' => ∃ fr' h' ρ', bs fr h = .nx fr' h' ∧ Ext X.K own ρ h H ρ' h' H' ∧ HR T X.K tl own ρ' h' H' ∧ EnvR T X own ρ' h' H' fr' σ', fun y σ' H' => ∃ v fr' h' ρ', bs fr h = .rt v fr' h' ∧ Ext X.K own ρ h H ρ' h' H' ∧ HR T X.K tl own ρ' h' H' ∧ EnvR T X own ρ' h' H' fr' σ' ∧ VR T X.K ρ' H' v y,
      fun σ' H' => ∃ fr' h' ρ', bs fr h = .bk fr' h' ∧ Ext X.K own ρ h H ρ' h' H' ∧ HR T X.K tl own ρ' h' H' ∧ EnvR T X own ρ' h' H' fr' σ', fun σ' H' => ∃ fr' h' ρ', bs fr h = .ct fr' h' ∧ Ext X.K own ρ h H ρ' h' H' ∧ HR T X.K tl own ρ' h' H' ∧ EnvR T X own ρ' h' H' fr' σ'⟩ (I.toTry _) ⟨ρ, h, fr, R, Ev.toTr hc, ?_⟩) (fun f s1 z => ?_) fun _ _ z => z
  case cat =>
    rintro u s' ⟨a, B, sI, pins', σ', H', cls, d, rfl, J', nb, up, sky, na, os, ag, w⟩
    rw [← hW'] at w
    obtain ⟨e, fr', h', ρ', p, c, fs, er, e1, e2, x1, R1, Ev1, hg1, hp1⟩ := w
    subst e1 e2
    rw [er] at q
    have q : RunS T X tl own W D (hf e fr' h') ρ h H := q
    have J : Inv X pins σ' H' sI := J'.ofTry ok
    have sky1 : Sky B (X.env :: X.outer) a (Zc (.ref (cAdr T X.K c)) (some p)) X.env.locals s'.heap := by rw [← hs]; exact sky
    refine Sky.land Zc.steady frames hfr sky1 fun h3 fl3 up3 => ?_
    have J3 : Inv X pins σ' H' { s' with heap := h3 } := J.landed nb fl3.1 (up.trans up3) os ag
    obtain ⟨oe3, vs3, he3, hz3, hd3⟩ := fl3.there
    have far : a ∉ frs (X.env :: X.outer) := fun hm => by
      obtain ⟨_, o', e', hnf⟩ := fl3.2.2.1.mem hm
      rw [he3] at e'
      cases e'
      exact hnf _ hd3
    have farL : a ≠ X.env.locals := fun z => far (List.mem_filterMap.mpr ⟨X.env, List.mem_cons_self, by rw [hfr, z]⟩)
    have farF : a ∉ X.fs := fun hm => by
      obtain ⟨v, hv, z⟩ := List.mem_filterMap.mp hm
      exact far (List.mem_filterMap.mpr ⟨v, List.mem_cons_of_mem _ hv, z⟩)
    have S3 := J3.suite he3 hd3 na farL farF
    have LT : PySem.W.Looks (model X.prog X.w) h3 (typeOf (.ref a)) (.ref (cAdr T X.K c)) := fun A Q E s k z => wpAny_typeOf_ref (k _ _ he3) (by rw [hz3.1]; exact z)
    have go : ∀ {hs' : List ExceptHandler} {g : HS}, HsOk T X tl own hs' g → RunS T X tl own W D (g e fr' h') ρ h H → wpAny (model X.prog X.w) X.A (handleBy (.ref a) X.env hs') (SP2 X pins D) X.xe { s' with heap := h3 } := by
      intro hs' g hk
      induction hk with
      | nil =>
        intro q
        refine wpAny_handleBy_nil ?_
        obtain ⟨_, _, _, oe, vs, Tb', oT, ts', he, hz, hd, hv1, _⟩ := id fl3
        unfold PySem.passOn
        refine wpAny_bind (wpAny_field he hd hv1 ?_)
        rw [if_neg (show ¬ ((Value.ref Tb' == Value.none) = true) from by simp)]
        have last : wpAny (model X.prog X.w) X.A (setFlight (.ref a) X.env.frame) (fun _ s4 => wpAny (model X.prog X.w) X.A (throw (.ref a) : Sem Flow) (SP2 X pins D) X.xe s4) X.xe { s' with heap := h3 } := by
          rw [hfr]
          refine HandSPX.setFlight_upZ fl3 fun h4 hold up4 => wpAny_throw (tk _ _ ⟨a, B, sI, pins, σ', H', _, _, rfl, J, nb, (up.trans up3).trans up4, .inr (.inr (by rw [hs]; exact hold)), na, os, ag, ?_⟩)
          exact q ρ' H' σ' p c fs x1 R1 Ev1 hg1 hp1
        first
          | exact wpAny_bind (wpAny_pure (wpAny_bind last))
          | exact wpAny_bind last
      | @cons g i x n np p' b₀ sts fs' hds' hs'' hx hg hd hi hl hsu r ih =>
        intro q
        unfold hCons at q
        rw [hg1] at q
        dsimp only at q
        have hloc : Loc X.env.scope n := .inl hl
        cases et : takes T.P c g with
        | none => rw [et] at q; exact q.elim
        | some b =>
          obtain ⟨k, Kc, Kk, f1, f2, eg, eKc, eKk, ex1, ex2, eb⟩ : ∃ k Kc Kk f1 f2, T.P.globs.get g = some (.cls k) ∧ T.P.clss.get c = some Kc ∧ T.P.clss.get k = some Kk ∧ Kc.exc = some f1 ∧ Kk.exc = some f2 ∧ b = Kc.mro.any fun x => Nat.beq x k := by
            unfold takes at et
            split at et
            · split at et
              · split at et
                · cases et
                  exact ⟨_, _, _, _, _, ‹_›, ‹_›, ‹_›, ‹_›, ‹_›, rfl⟩
                · cases et
              · cases et
            · cases et
          obtain ⟨x', hx', hck, hmg⟩ := F.cls g k eg
          rw [hx] at hx'
          cases hx'
          have hex := F.exm c Kc f1 k Kk f2 eKc ex1 eKk ex2
          rw [← eb, cAdr_of hck] at hex
          have LM := PySem.W.exm_one (M := model X.prog X.w) J3.kIn LT hex
          refine wpAny_handleBy_cons (codeAny_handlers_test ?_) (by intro z; cases z)
          refine ld_glob (X := X.suite a ((a, oe3) :: (X.pn ++ pins))) S3 hg hmg (LM.here ?_) hd
          rw [et] at q
          cases b with
          | false =>
            show wpAny _ X.A (handleBy (.ref a) X.env hds') _ _ _
            exact ih q
          | true =>
            dsimp only at q
            refine codeAny_handlers_suite_as ?_
            refine HandSPX.lands_againZ fl3 fun h4 fl4 up4 => ?_
            have J4 : Inv X pins σ' H' { s' with heap := h4 } := J.landed nb fl4.1 ((up.trans up3).trans up4) os ag
            obtain ⟨oe4, vs4, he4, hz4, hd4⟩ := fl4.there
            have S4 := J4.suite he4 hd4 na farL farF
            refine store_ok (X := X.suite a ((a, oe4) :: (X.pn ++ pins))) (v := .ref a) S4 N.nd hi hloc rfl (fun s5 S5 => ?_) (.inr hl)
            cases esl : slotFree fr' i with
            | false => rw [esl] at q; exact q.elim
            | true =>
              rw [esl] at q
              dsimp only at q
              obtain ⟨nc, hlt⟩ : (∀ b, fr'[i]? ≠ some (Slot.c b)) ∧ i < fr'.length := by
                unfold slotFree at esl
                split at esl
                · rename_i e0
                  exact ⟨fun b z => (by rw [e0] at z; cases z), (List.getElem?_eq_some_iff.mp e0).1⟩
                · rename_i e0
                  exact ⟨fun b z => (by rw [e0] at z; cases z), (List.getElem?_eq_some_iff.mp e0).1⟩
                · cases esl
              have EvS := Ev1.toSuite N hc hi (a := a) (oe := oe4) (pn := (a, oe4) :: (X.pn ++ pins)) List.mem_cons_self hg1 hp1 hz4.1 hz4.2 ⟨_, hd4⟩ nc hlt
              cases eb2 : fs' (fr'.set i (.v (.exv e))) h' with
              | nx fr2 h2 =>
                rw [eb2] at q
                dsimp only at q
                cases ecl : cleanF (fr2.set i .n) with
                | false => rw [ecl] at q; exact q.elim
                | true =>
                  rw [ecl] at q
                  refine wpAny_mono ((hsu a ((a, oe4) :: (X.pn ++ pins))).run [] s5 _ H' ⟨fun σ2 H2 => ∃ ρ2, Ext X.K own ρ' h' H' ρ2 h2 H2 ∧ HR T X.K tl own ρ2 h2 H2 ∧ EnvR T (X.suite a ((a, oe4) :: (X.pn ++ pins))) own ρ2 h2 H2 fr2 σ2, fun _ _ _ => False, fun _ _ => False, fun _ _ => False⟩ S5
                    ⟨ρ', h', _, R1, EvS, by rw [eb2]; exact fun ρ2 H2 σ2 a b c => ⟨ρ2, a, b, c⟩⟩) (fun f s6 z => ?_) (fun _ _ z => z.elim)
                  cases f with
                  | next =>
                    obtain ⟨σ2, H2, S6, ρ2, x2, R2, Ev2⟩ := z
                    refine gone_ok (S6.unsuite ok) N.nd hi hl fun s7 J7 => ⟨_, _, J7, ?_⟩
                    exact q ρ2 H2 _ (x1.tr x2) R2 (Ev2.ofSuite hi hl ecl)
                  | brk => obtain ⟨_, _, _, z⟩ := z; exact z.elim
                  | cont => obtain ⟨_, _, _, z⟩ := z; exact z.elim
                  | ret u => obtain ⟨_, _, _, _, _, z⟩ := z; exact z.elim
              | bk _ _ => rw [eb2] at q; exact q.elim
              | ct _ _ => rw [eb2] at q; exact q.elim
              | rt _ _ _ => rw [eb2] at q; exact q.elim
              | ex _ _ _ => rw [eb2] at q; exact q.elim
              | no => rw [eb2] at q; exact q.elim
    exact go hh q
  · cases eb : bs fr h with
    | nx fr' h' => exact fun ρ' H' σ' a b c => ⟨fr', h', ρ', rfl, a, b, c.ofTr hc⟩
    | bk fr' h' => exact fun ρ' H' σ' a b c => ⟨fr', h', ρ', rfl, a, b, c.ofTr hc⟩
    | ct fr' h' => exact fun ρ' H' σ' a b c => ⟨fr', h', ρ', rfl, a, b, c.ofTr hc⟩
    | rt v fr' h' => exact fun ρ' H' σ' y a b c r => ⟨v, fr', h', ρ', rfl, a, b, c.ofTr hc, r⟩
    | ex e fr' h' =>
      intro ρ' H' σ' p c fs a b d hg hp
      rw [← hW']
      exact ⟨e, fr', h', ρ', p, c, fs, eb, rfl, rfl, a, b, d.ofTr hc, hg, hp⟩
    | no => rw [eb] at q; exact q.elim
  · cases f with
    | next =>
      obtain ⟨σ', H', J, fr', h', ρ', er, a, b, c⟩ := z
      rw [er] at q
      exact wpAny_execs_nil ⟨σ', H', J.ofTry ok, q ρ' H' σ' a b c⟩
    | brk =>
      obtain ⟨σ', H', J, fr', h', ρ', er, a, b, c⟩ := z
      rw [er] at q
      exact ⟨σ', H', J.ofTry ok, q ρ' H' σ' a b c⟩
    | cont =>
      obtain ⟨σ', H', J, fr', h', ρ', er, a, b, c⟩ := z
      rw [er] at q
      exact ⟨σ', H', J.ofTry ok, q ρ' H' σ' a b c⟩
    | ret u =>
      obtain ⟨v, σ', H', J, r, v', fr', h', ρ', er, a, b, c, d⟩ := z
      rw [er] at q
      exact ⟨v, σ', H', J.ofTry ok, r, q ρ' H' σ' v a b c d⟩
end
end Py

/-! List comprehensions, in a frame that may have own cells. -/
set_option Elab.async false
set_option linter.all false
set_option maxRecDepth 100000
noncomputable section
namespace Py
open PySem PySem.Spec PyProof.Rows L2
/-- the environment of a block that starts at g -/
abbrev blkE (X : Cx) (scope : Scope) (g : Heap) : Env := compEnvC scope (cellsFrom (g.objs.size + 1) scope.names (cloFrom X.env.cells scope.names [])) g.objs.size X.env
/-- XB is the context of a comprehension's block within X -/
def BlkX (X : Cx) (scope : Scope) (pins : List (Addr × Obj)) (σ : L2.St) (H : Hp) (ad : List Addr) (XB : Cx) : Prop :=
  ∃ s, Inv X pins σ H s ∧ (∀ b ∈ ad, FpOk X pins H b ∧ b < s.heap.objs.size) ∧ XB = X.blk s H scope (blkE X scope s.heap) ad
def IsB (X : Cx) (scope : Scope) (XB : Cx) : Prop := ∃ pins σ H ad, BlkX X scope pins σ H ad XB
/-- the block's reading: the names' state goes on from turn to turn -/
def lcW (wi : TI) (g : Cx → TG) (tt : Cx → TT) (te : Cx → TE) (X : Cx) (scope : Scope) (vs : List Nat) (pins : List (Addr × Obj)) (σ : L2.St) (H : Hp) (Q : VK) : Prop :=
  wi σ H fun J H1 => ∀ D, H1 D = none → ∀ ad XB, BlkX X scope pins σ (upd H1 D (.lst [])) ad XB → ∃ W : Nat → Nat → L2.St → Hp → Prop, (∃ m, W 0 m (wipe σ vs) (upd H1 D (.lst []))) ∧ ∀ i m σ1 H2, W i m σ1 H2 →
    (J.stop i H2 ∧ Q (.ref D) H2) ∨ (J.go i H2 ∧ ∃ Nx : L2.St → Hp → Prop, (∀ σ' H', Nx σ' H' → ∃ m', m' < m ∧ W (i + 1) m' σ' H') ∧ ∀ x H3, J.yld i H2 x H3 → g XB x σ1 H3 fun σ2 H4 => tt XB σ2 H4 fun b H5 =>
      if b = true then te XB σ2 H5 fun y H6 => ∃ acc, H6 D = some (.lst acc) ∧ acc.length < sizeLine ∧ Nx σ2 (upd H6 D (.lst (acc ++ [y]))) else Nx σ2 H5)
section
variable {X : Cx}
theorem lc_own {pins : List (Addr × Obj)} {s : Shared} {σ : L2.St} {H : Hp} {Q : VK} {elt tg iter : PySem.Expr} {ifs : List PySem.Expr} {scope : Scope} {ow : List (Str × Nat)} {pos pos' : Pos} {wi : TI} {g : Cx → TG} {tt : Cx → TT} {te : Cx → TE} {use : Option (Value → Sem Unit)} {Qf : Value → Shared → Prop}
    (hc : X.calm = true) (hN : X.N.Nodup) (I : Inv X pins σ H s) (hi : PI X tg iter wi) (ok : BlkOk X.N X.env.scope scope ow)
    (hg : ∀ XB, IsB X scope XB → PG XB tg (g XB)) (ht : ∀ XB, IsB X scope XB → PTs XB ifs (tt XB)) (he : ∀ XB, IsB X scope XB → PE XB elt (te XB)) (hs : ∀ x, foldedSetIterable iter X.env x = pure x)
    (h : lcW wi g tt te X scope (ow.map (·.2)) pins σ H Q)
    (hR : ∀ D C s' m H', Inv X pins σ H' s' → Q (.ref D) H' → s'.heap.Ns C m → FpOk X pins H' C → compPost (model X.prog X.w) X.A X.xe use Qf (.ref D) C (.ok .next) s') :
    wpAny (model X.prog X.w) X.A (comprehension (.ListComp elt [⟨tg, iter, ifs, 0⟩] scope pos) scope X.env pos' (newList []) false (eval iter X.env) use) Qf X.xe s := by
  have cap : ∀ y ∈ scope.names, y.2 = .free → ∃ c, X.env.cells.lookup y.1 = some c := fun y hy e => I.ok.has _ (ok.free y hy e)
  refine wpAny_comprehension_free (use := use) rfl hs (closure_ok cap) ok.kind (fun y hy e => by rw [ok.uniq y hy, e]) (thn (hi.run pins s σ H _ I h) fun xv s1 hx => thn hx fun itv s2 ⟨it, ad, wt, J, H1, e, I2, tu, w2, ad2, q⟩ => ?_)
  cases e
  refine wpAny_newObj_type (newEnv_comp ?_) (by show 0 ≤ sizeLine; decide)
  have fresh : H1 s2.heap.objs.size = none := I2.hok.fresh (Nat.le_refl _)
  have new2 : (s2.heap.push { cls := .type "list", data := .seq ([] : List Value).toArray }).get? s2.heap.objs.size = some _ := Heap.get?_push_size _ rfl
  generalize hg2 : s2.heap.push { cls := .type "list", data := .seq ([] : List Value).toArray } = g3 at new2 ⊢
  have k23 : ∀ b o, s2.heap.get? b = some o → g3.get? b = some o := fun b o e => by rw [← hg2]; exact Heap.get?_push_of_some _ e
  have z23 : g3.objs.size = s2.heap.objs.size + 1 := by rw [← hg2]; exact Heap.size_push ..
  generalize hD : s2.heap.objs.size = D at fresh new2 z23 ⊢
  have I3 : Inv X pins σ (upd H1 D (.lst [])) { s2 with heap := g3 } := I2.laid (t' := s2.toks) k23 (Nat.le_of_eq hD) ⟨Nat.zero_le _, [], 0, .nil, new2⟩
  have ad3 : ∀ b ∈ ad, FpOk X pins (upd H1 D (.lst [])) b ∧ b < g3.objs.size := fun b hb => by
    obtain ⟨o, eo, _⟩ := tu.obj _ _ w2 b hb
    have lt : b < D := by rw [← hD]; exact Heap.lt_size eo
    refine ⟨⟨?_, (ad2 b hb).2⟩, by rw [z23]; exact Nat.lt_succ_of_lt lt⟩
    rw [upd_ne (Nat.ne_of_lt lt)]
    exact (ad2 b hb).1
  obtain ⟨XB, hXB⟩ : ∃ XB, XB = X.blk { s2 with heap := g3 } (upd H1 D (.lst [])) scope (blkE X scope g3) ad := ⟨_, rfl⟩
  have isb : BlkX X scope pins σ (upd H1 D (.lst [])) ad XB := ⟨{ s2 with heap := g3 }, I3, ad3, hXB⟩
  obtain ⟨W, ⟨m0, w0⟩, turn⟩ := q D fresh ad XB isb
  have pg := hg XB ⟨_, _, _, _, isb⟩
  have pt := ht XB ⟨_, _, _, _, isb⟩
  have pe := he XB ⟨_, _, _, _, isb⟩
  have I4 := block_start I3 ok hN ad3
  have w3 : wt 0 (pushCells (g3.push { cls := .type "dict", data := .dict #[] }) scope.names) := tu.keep _ _ _ w2 fun b _ o e => pushCells_keeps _ _ _ _ (Heap.get?_push_of_some _ (k23 b o e))
  have I4 : Inv XB [] (wipe σ (ow.map (·.2))) (upd H1 D (.lst [])) { s2 with heap := pushCells (g3.push { cls := .type "dict", data := .dict #[] }) scope.names } := by
    rw [hXB]; exact I4
  show codeAny (model X.prog X.w) X.A (.compStart (.ListComp elt [⟨tg, iter, ifs, 0⟩] scope pos) 0 (.ref it) (.ref D) (blkE X scope g3)) (compPost (model X.prog X.w) X.A X.xe use Qf (.ref D) g3.objs.size) { s2 with heap := pushCells (g3.push { cls := .type "dict", data := .dict #[] }) scope.names }
  have eE : XB.env = blkE X scope g3 := by rw [hXB]
  have eP : XB.prog = X.prog := by rw [hXB]
  have eW : XB.w = X.w := by rw [hXB]
  have eK : XB.K = X.K := by rw [hXB]
  have eA : XB.A = X.A := by rw [hXB]
  have eC : XB.calm = true := by rw [hXB]; exact hc
  have eX : XB.xe = fun _ _ => False := by rw [hXB]
  have eN : XB.pn = [] := by rw [hXB]
  have eF : XB.ex = ad := by rw [hXB]
  have none3 : ∀ b ∈ ad, (upd H1 D (.lst [])) b = none := fun b hb => (ad3 b hb).1.1
  have fpo : ∀ {σ' : L2.St} {H' : Hp} {s' : Shared}, Inv XB [] σ' H' s' → (∀ b ∈ ad, H' b = none) → ∀ b ∈ ad, FpOk XB [] H' b := fun {σ' H' s'} I' hn b hb => by
    have hb' : b ∈ XB.ex := by rw [eF]; exact hb
    refine ⟨hn b hb, (I'.ok.exf b hb').1, I'.ok.exfs b hb', .inl hb', (I'.ok.exf b hb').2, fun p hp => ?_⟩
    rw [eN] at hp
    cases hp
  generalize hs4 : ({ s2 with heap := pushCells (g3.push { cls := .type "dict", data := .dict #[] }) scope.names } : Shared) = s4 at I4 ⊢
  have w4 : wt 0 s4.heap := by rw [← hs4]; exact w3
  have run : codeAny (model X.prog X.w) X.A (.compLoop (.ListComp elt [⟨tg, iter, ifs, 0⟩] scope pos) 0 (.ref it) (.ref D) (blkE X scope g3)) (compPost (model X.prog X.w) X.A X.xe use Qf (.ref D) g3.objs.size) s4 := by
    refine compLoop_any (fun n s' => ∃ i σ' H', Inv XB [] σ' H' s' ∧ wt i s'.heap ∧ (∀ b ∈ ad, H' b = none) ∧ W i n σ' H') ?_ m0 ⟨0, _, _, I4, w4, none3, w0⟩
    rintro n s5 ⟨i, σ5, H5, I5, w5, n5, q5⟩
    rcases turn i n σ5 H5 q5 with ⟨stop, qq⟩ | ⟨go, Nx, hNx, step⟩
    · have td := tu.done XB eP eW eK eC i [] s5 σ5 H5 (fun _ _ => False) I5 (fpo I5 n5) w5 stop
      rw [eA] at td
      refine thnF td fun r s6 ⟨hr, I6⟩ => ?_
      cases hr
      have I6 : Inv (X.blk { s2 with heap := g3 } (upd H1 D (.lst [])) scope (blkE X scope g3) ad) [] σ5 H5 s6 := by rw [← hXB]; exact I6
      have back : Inv X pins σ H5 s6 := I3.call' (ch := ad) I6.os I6.base I6.hok I6.bare fun b hb => by
        obtain ⟨⟨_, f1, f2, f3, f4, f5⟩, _⟩ := ad3 b hb
        exact ⟨f3, f1, f4, f5⟩
      have nC : H5 g3.objs.size = none := I6.free
      obtain ⟨m, hn, _⟩ := I6.loc
      exact hR D g3.objs.size s6 m H5 back qq hn (I3.fpOk (Nat.le_refl _) nC)
    · have ti := tu.item XB eP eW eK eC i [] s5 σ5 H5 (fun _ _ => False) I5 (fpo I5 n5) w5 go
      rw [eA] at ti
      refine thnF ti fun r s6 ⟨u, hr, h6⟩ => ?_
      cases hr
      refine thnF h6 fun _ s7 ⟨x, H7, I7, r7, y7, w7, n7⟩ => ?_
      have J7 := I7.pinned (fpo I7 n7) (tu.obj _ _ w7)
      have g1 := pg.run _ s7 σ5 H7 x u _ J7 r7 (step x H7 y7)
      rw [eP, eW, eA, eE, eX] at g1
      refine thnF g1 fun _ s8 ⟨σ8, H8, I8, q8⟩ => ?_
      have t1 := pt.run _ s8 σ8 H8 _ I8 q8
      rw [eP, eW, eA, eE, eX] at t1
      refine thnF t1 fun b s9 ⟨H9, I9, q9⟩ => ?_
      have done : ∀ {s' : Shared} {H' : Hp}, Inv XB ([] ++ pinsAt ad s7.heap) σ8 H' s' → Nx σ8 H' → ∃ m, m < n ∧ ∃ i σ' H', Inv XB [] σ' H' s' ∧ wt i s'.heap ∧ (∀ b ∈ ad, H' b = none) ∧ W i m σ' H' := fun {s' H'} I' nx => by
        obtain ⟨m', hm, w'⟩ := hNx σ8 H' nx
        have pin : ∀ b ∈ ad, ∀ o, s7.heap.get? b = some o → s'.heap.get? b = some o ∧ H' b = none := fun b hb o e => by
          obtain ⟨z1, z2, _⟩ := I'.pin (b, o) (List.mem_append_right _ (List.mem_append_right _ (mem_pinsAt hb e)))
          exact ⟨z1, z2⟩
        refine ⟨m', hm, i + 1, σ8, H', I'.unpinned, tu.keep _ _ _ w7 fun b hb o e => (pin b hb o e).1, fun b hb => ?_, w'⟩
        obtain ⟨o, eo, _⟩ := tu.obj _ _ w7 b hb
        exact (pin b hb o eo).2
      cases b with
      | false => exact done I9 q9
      | true =>
        have e1 := pe.run _ s9 σ8 H9 _ I9 q9
        rw [eP, eW, eA, eE, eX] at e1
        refine thnF e1 fun z s10 ⟨yv, H10, I10, r10, acc, hD10, hz10, nx⟩ => ?_
        have ap := app_ok (E := fun _ _ => False) I10 hD10 hz10 r10 (Q := fun _ s' => ∃ m, m < n ∧ ∃ i σ' H', Inv XB [] σ' H' s' ∧ wt i s'.heap ∧ (∀ b ∈ ad, H' b = none) ∧ W i m σ' H') fun s11 I11 => done I11 nx
        rw [eP, eW, eA] at ap
        exact thnF ap fun _ _ z => z
  exact codeAny_compStart_list run (tu.self X.A 0 _ _ _ w4 run)
end
end Py

/-! Comprehensions: the reading, as a value, assigned to a name. -/
set_option Elab.async false
set_option linter.all false
set_option maxRecDepth 100000
noncomputable section
namespace Py
open PySem PySem.Spec PyProof.Rows L2
theorem wipeF_get : ∀ {vs : List Nat} {fr : Py.Frame} {j : Nat} {sl : Slot}, (wipeF vs fr)[j]? = some sl → sl = .n ∨ (j ∉ vs ∧ fr[j]? = some sl)
  | [], fr, j, sl, e => .inr ⟨by simp, e⟩
  | i :: r, fr, j, sl, e => by
    rcases wipeF_get (vs := r) (fr := fr.set i .n) e with z | ⟨z1, z2⟩
    · exact .inl z
    · by_cases hj : i = j
      · subst hj
        by_cases hl : i < fr.length
        · rw [List.getElem?_set_self hl] at z2
          exact .inl (Option.some.inj z2).symm
        · rw [List.getElem?_eq_none (by simpa using hl)] at z2
          cases z2
      · rw [List.getElem?_set_ne hj] at z2
        exact .inr ⟨by simp only [List.mem_cons, not_or]; exact ⟨fun z => hj z.symm, z1⟩, z2⟩
section
variable {T : Tb} {X XB : Cx} {tl : List (Addr × Str)} {own : List Nat} {W : WX} {σ : L2.St} {ρ ρ' ρ1 : List Addr} {h h' h1 : OHeap} {H H' H1 : Hp} {fr : Py.Frame} {K : PySem.W.Frag} {pins : List (Addr × Obj)} {s s1 : Shared} {scope : Scope} {ow : List (Str × Nat)} {ad : List Addr}
/-- a visible name of a block that is not its own is captured -/
theorem blk_free (ok : BlkOk X.N X.env.scope scope ow) (hN : X.N.Nodup) {j : Nat} {n : Str} (hj : X.N[j]? = some n) (hne : j ∉ ow.map (·.2)) (hv : Vis (relS scope X.env.scope) n) :
    scope.names.lookup n = some .free ∧ ((relS scope X.env.scope).names.lookup n = some .cell ∨ (relS scope X.env.scope).names.lookup n = some .free) := by
  have key : ∀ k, (relS scope X.env.scope).names.lookup n = some k → (k = .local ∨ k = .cell ∨ k = .free) → scope.names.lookup n = some .free ∧ (k = .cell ∨ k = .free) := fun k hk q => by
    obtain ⟨k', e, r⟩ := lookup_relS hk
    have no : ¬ (k' = .local ∨ k' = .cell) := fun z => by
      rcases ok.own _ (PySem.mem_of_lookup e) z with z | z
      · obtain ⟨p, hp, hy⟩ := List.mem_map.mp z
        have e3 := ok.ix p hp
        rw [show p.1 = n from hy] at e3
        exact hne (List.mem_map.mpr ⟨p, hp, nodup_ix hN e3 hj⟩)
      · exact z (List.mem_of_getElem? hj)
    rcases r with rfl | ⟨rfl, rfl⟩
    · rcases q with rfl | rfl | rfl
      · exact absurd (.inl rfl) no
      · exact absurd (.inr rfl) no
      · exact ⟨e, .inr rfl⟩
    · exact ⟨e, .inl rfl⟩
  have kk : ∀ k, (relS scope X.env.scope).names.lookup n = some k → (k = .local ∨ k = .cell ∨ k = .free) → scope.names.lookup n = some .free ∧ ((relS scope X.env.scope).names.lookup n = some .cell ∨ (relS scope X.env.scope).names.lookup n = some .free) := fun k hk q => by
    obtain ⟨a, b⟩ := key k hk q
    refine ⟨a, ?_⟩
    rcases b with rfl | rfl
    · exact .inl hk
    · exact .inr hk
  rcases hv with hv | hv | hv
  · exact kk _ hv (.inl rfl)
  · exact kk _ hv (.inr (.inl rfl))
  · exact kk _ hv (.inr (.inr rfl))
/-- .. and has the cell that it has outside -/
theorem blk_cell (ok : BlkOk X.N X.env.scope scope ow) (I : Inv X pins σ H s) {n : Str} (e : scope.names.lookup n = some .free) {g : Heap} : ∃ c, (blkE X scope g).cells.lookup n = some c ∧ X.env.cells.lookup n = some c := by
  have hn : (n, NameKind.free) ∈ scope.names := PySem.mem_of_lookup e
  obtain ⟨d, hd⟩ : ∃ d, X.env.cells.lookup n = some d := I.ok.has _ (ok.free _ hn rfl)
  have hc : (blkE X scope g).cells = cellsFrom (g.objs.size + 1) scope.names (cloFrom X.env.cells scope.names []) := rfl
  rw [← Heap.size_push g { cls := .type "dict", data := .dict #[] }] at hc
  obtain ⟨c, ec⟩ := mem_lookup (cells_acc (names := scope.names) (n := (g.push { cls := .type "dict", data := .dict #[] }).objs.size) (cloFrom_has (cells := X.env.cells) (acc := []) hn))
  rw [← hc] at ec
  refine ⟨c, ec, ?_⟩
  rw [hc] at ec
  rcases cells_mem (PySem.mem_of_lookup ec) with hm | ⟨h1, _, _⟩
  · rcases cloFrom_mem hm with hm | ⟨_, rfl⟩
    · cases hm
    · rw [hd]
      rfl
  · have := ok.uniq _ h1
    rw [e] at this
    cases this
theorem EnvR.toBlk (hc : X.calm = true) (hN : X.N.Nodup) (ok : BlkOk X.N X.env.scope scope ow) (B : BlkX X scope pins σ H ad XB) (Ev : EnvR T X own ρ h H fr σ) : EnvR T XB own ρ h H (wipeF (ow.map (·.2)) fr) (wipe σ (ow.map (·.2))) := by
  obtain ⟨s, I, had, rfl⟩ := B
  have S := Ev.celS I
  have visX : ∀ {n : Str}, scope.names.lookup n = some .free → Vis X.env.scope n := fun {n} e => .inr (ok.free _ (PySem.mem_of_lookup e) rfl)
  refine ⟨fun j n h1 h2 => ?_, by rw [wipe_length]; exact Ev.len, Ev.dif, fun a ha => ?_⟩
  · cases q : (wipeF (ow.map (·.2)) fr)[j]? with
    | none => exact True.intro
    | some sl =>
      cases sl with
      | n => exact True.intro
      | v x =>
        rcases wipeF_get q with z | ⟨hne, e⟩
        · cases z
        · obtain ⟨f1, _⟩ := blk_free ok hN h1 hne h2
          have z := Ev.slot j n h1 (visX f1)
          rw [e] at z
          obtain ⟨y, e1, e2⟩ := z
          exact ⟨y, by rw [wipe_out hne]; exact e1, .inl (e2.vr hc)⟩
      | c a =>
        rcases wipeF_get q with z | ⟨hne, e⟩
        · cases z
        · obtain ⟨f1, f2⟩ := blk_free ok hN h1 hne h2
          have z := Ev.slot j n h1 (visX f1)
          rw [e] at z
          obtain ⟨k1, k2, c, v, k3, k4, k5, k6⟩ := z
          obtain ⟨c', g1, g2⟩ := blk_cell (g := s.heap) ok I f1
          rw [k3] at g2
          cases g2
          exact ⟨k1, f2, c, v, g1, k4, k5, fun x hx => by rw [wipe_out hne]; exact k6 x hx⟩
  · obtain ⟨c, v, oc, h1, h2, h3, h4, h5, h6, h7⟩ := S.cel a ha
    refine ⟨c, v, h1, h2, h3, h4, .inr ⟨h5, h3, fun hb => ?_, oc, h6, h7⟩⟩
    obtain ⟨⟨_, _, _, f3, f4, _⟩, _⟩ := had c hb
    obtain ⟨c', v', k1, _, _, _, k5⟩ := Ev.cel a ha
    rw [h1] at k1
    cases k1
    rcases k5 with ⟨j, n, _, _, _, g4, _⟩ | ⟨_, _, g3, oc', g4, _⟩
    · exact f4 n c g4 rfl
    · rcases f3 with z | z
      · exact g3 z
      · exact absurd (Heap.lt_size g4) (Nat.not_lt.mpr z)
abbrev W0 : WX := fun _ _ _ _ => False
/-- a clause's tests, read -/
def tTs (T : Tb) (X : Cx) (tl : List (Addr × Str)) (own : List Nat) (W : WX) (fr : Py.Frame) (eb : OHeap → R Bool) : TT := fun σ H Q =>
  ∃ ρ h, HR T X.K tl own ρ h H ∧ EnvR T X own ρ h H fr σ ∧ Run T X tl own W σ (eb h) (fun b _ _ H' => Q b H') ρ h H
theorem sts_nil : PTs X [] (tTs T X tl own W fr fun h => .ok true h) := ⟨fun pins s σ H Q I ⟨ρ, h, R, Ev, q⟩ => pts_nil.run pins s σ H Q I (q.fin Ext.refl R)⟩
def tst1 (ea : OHeap → R PV) : OHeap → R Bool := fun h => (ea h).bind fun x h => (match truth h x with
    | some true => .ok true h
    | some false => .ok false h
    | none => .no)
theorem sts_one {c : PySem.Expr} {ea : OHeap → R PV} (hc : PT X c (tB T X tl own W fr ea)) : PTs X [c] (tTs T X tl own W fr (tst1 ea)) := by
  refine ⟨fun pins s σ H Q I ⟨ρ, h, R, Ev, q⟩ => (pts_one hc).run pins s σ H Q I (Run.twoB R Ev q fun x ρ1 h1 H1 e1 R1 Ev1 q1 => ?_)⟩
  cases e : truth h1 x with
  | none => rw [e] at q1; exact q1.elim
  | some b =>
    rw [e] at q1
    cases b with
    | true => exact ⟨true, rfl, q1.fin Ext.refl R1⟩
    | false => exact ⟨false, rfl, q1.fin Ext.refl R1⟩
abbrev FB := Py.Frame → OHeap → R Bool
def lcE (av : AV) (tv : FB) (ev : FE) (fi : FI) (vs : List Nat) : FE := fun fr h => (fi fr h).bind fun d h => (match compL av tv ev d h.n turns 0 (wipeF vs fr) (h.push (.lst [])) with
    | .ok _ h' => .ok (.obj h.n) h'
    | _ => .no)
/-- the target writes no cell -/
def KeepsH (T : Tb) (XB : Cx) (own : List Nat) (av : AV) : Prop := ∀ ρ h H fr σ v fr' h', EnvR T XB own ρ h H fr σ → av v fr h = .nx fr' h' → h' = h
/-- what a comprehension's parts are -/
structure LcOk (T : Tb) (X : Cx) (tl : List (Addr × Str)) (own : List Nat) (W : WX) (scope : Scope) (ow : List (Str × Nat)) (elt tg iter : PySem.Expr) (ifs : List PySem.Expr) (av : AV) (tv : FB) (ev : FE) (fi : FI) : Prop where
  hc : X.calm = true
  nd : X.N.Nodup
  ok : BlkOk X.N X.env.scope scope ow
  it : ∀ fr, PI X tg iter (tI T X tl own W fr (fi fr))
  tg : ∀ XB, IsB X scope XB → PG XB tg (tG T XB tl own W0 av)
  kp : ∀ XB, IsB X scope XB → KeepsH T XB own av
  ts : ∀ XB, IsB X scope XB → ∀ fr, PTs XB ifs (tTs T XB tl own W0 fr (tv fr))
  el : ∀ XB, IsB X scope XB → ∀ fr, PE XB elt (tE T XB tl own W0 fr (ev fr))
section
variable {elt tg iter : PySem.Expr} {ifs : List PySem.Expr} {av : AV} {tv : FB} {ev : FE} {fi : FI} {Q : VK}
theorem ext_keep {ρ' : List Addr} {H' : Hp} (e : Ext K own ρ h H ρ' h H') : Ext K [] ρ h H ρ' h H' := ⟨e.pre, e.tup, fun _ _ _ z _ => z⟩
theorem lc_read (L : LcOk T X tl own W scope ow elt tg iter ifs av tv ev fi) (q : tE T X tl own W fr (lcE av tv ev fi (ow.map (·.2)) fr) σ H Q) :
    lcW (tI T X tl own W fr (fi fr)) (fun XB => tG T XB tl own W0 av) (fun XB σ H Q => ∃ fr, tTs T XB tl own W0 fr (tv fr) σ H Q) (fun XB σ H Q => ∃ fr, tE T XB tl own W0 fr (ev fr) σ H Q) X scope (ow.map (·.2)) pins σ H Q := by
  obtain ⟨ρ, h, R, Ev, q⟩ := q
  refine ⟨ρ, h, R, Ev, q.bind.imp fun d ρ1 h1 H1 e1 R1 q1 J rJ D hD ad XB B => ?_⟩
  have x2 : Ext X.K [] ρ1 h1 H1 (ρ1 ++ [D]) (h1.push (.lst [])) (upd H1 D (.lst [])) := Ext.push hD
  have R2 : HR T X.K tl own (ρ1 ++ [D]) (h1.push (.lst [])) (upd H1 D (.lst [])) := R1.push hD (fun z => z) ⟨[], upd_same, rfl⟩
  have Ev2 := ((Ev.ext e1).ext x2).toBlk L.hc L.nd L.ok B
  have kp := L.kp XB ⟨_, _, _, _, B⟩
  have aD : (ρ1 ++ [D])[h1.n]? = some D := at_new R1
  have eK : XB.K = X.K := by obtain ⟨_, _, _, z⟩ := B; rw [z]
  obtain ⟨Fin, hF⟩ : ∃ Fin : Py.R Unit → List Addr → OHeap → Hp → Prop, Fin = fun r ρ h H => match r with
    | .ok _ h' => ∀ ρ' H', Ext X.K [] ρ h H ρ' h' H' → HR T X.K tl own ρ' h' H' → Q (.ref D) H'
    | _ => False := ⟨_, rfl⟩
  have f0 : Fin (compL av tv ev d h1.n turns 0 (wipeF (ow.map (·.2)) fr) (h1.push (.lst []))) (ρ1 ++ [D]) (h1.push (.lst [])) (upd H1 D (.lst [])) := by
    rw [hF]
    dsimp only
    split at q1
    · rename_i u h' ec
      exact fun ρ' H' e' R' => q1 ρ' H' (x2.tr e') R' (.ref D) (.inl ⟨D, rfl, pre_get e'.pre aD⟩)
    · exact q1.elim
  have fAt : ∀ {r : Py.R Unit} {ρ ρ' : List Addr} {h h' : OHeap} {H H' : Hp}, Ext X.K [] ρ h H ρ' h' H' → Fin r ρ h H → Fin r ρ' h' H' := fun {r ρ ρ' h h' H H'} e z => by
    rw [hF] at z ⊢
    dsimp only at z ⊢
    cases r with
    | ok u h2 => exact fun ρ2 H2 e2 R2 => z ρ2 H2 (e.tr e2) R2
    | _ => exact z
  refine ⟨fun i m σ H => ∃ ρ h fr, HR T X.K tl own ρ h H ∧ EnvR T XB own ρ h H fr σ ∧ ρ[h1.n]? = some D ∧ ItR T X.K ρ H d J ∧ Fin (compL av tv ev d h1.n m i fr h) ρ h H, ⟨turns, _, _, _, R2, Ev2, aD, rJ.ext x2, f0⟩, fun i m σ3 H3 ⟨ρ3, h3, fr3, R3, Ev3, a3, rJ3, f3⟩ => ?_⟩
  cases m with
  | zero => rw [hF] at f3; exact f3.elim
  | succ f =>
    unfold compL at f3
    split at f3
    · rw [hF] at f3; exact f3.elim
    · rename_i e
      rw [hF] at f3
      exact .inl ⟨(it_next R3 rJ3 e).1 rfl, f3 ρ3 H3 Ext.refl R3⟩
    · rename_i v e
      obtain ⟨go, yl⟩ := (it_next R3 rJ3 e).2 v rfl
      refine .inr ⟨go, fun σ H => ∃ ρ h fr, HR T X.K tl own ρ h H ∧ EnvR T XB own ρ h H fr σ ∧ ρ[h1.n]? = some D ∧ ItR T X.K ρ H d J ∧ Fin (compL av tv ev d h1.n f (i + 1) fr h) ρ h H, fun σ' H' z => ⟨f, Nat.lt_succ_self f, z⟩, fun x H4 hy => ?_⟩
      obtain ⟨x4, R4, rv⟩ := yl x H4 hy
      have Ev4 : EnvR T XB own ρ3 h3 H4 fr3 σ3 := Ev3.ext (by rw [eK]; exact x4 [])
      have f4 := fAt (x4 []) f3
      refine ⟨v, ρ3, h3, fr3, by rw [eK]; exact R4, Ev4, by rw [eK]; exact rv, ?_⟩
      cases ea : av v fr3 h3 with
      | nx fr5 h5 =>
        obtain rfl : h5 = h3 := kp _ _ _ _ _ _ _ _ Ev4 ea
        rw [ea] at f4
        dsimp only at f4
        intro ρ5 H5 σ5 e5 R5 Ev5
        rw [eK] at e5 R5
        have e5 : Ext X.K [] ρ3 h5 H4 ρ5 h5 H5 := ext_keep e5
        have f5 := fAt e5 f4
        have rJ5 := (rJ3.ext (x4 [])).ext e5
        refine ⟨fr5, ρ5, h5, by rw [eK]; exact R5, Ev5, ?_⟩
        cases et : tv fr5 h5 with
        | ok b h6 =>
          rw [et] at f5
          intro ρ6 H6 e6 R6
          have Ev6 := Ev5.ext e6
          rw [eK] at e6 R6
          have f6 := fAt e6 f5
          have rJ6 := rJ5.ext e6
          have a6 : ρ6[h1.n]? = some D := pre_get e6.pre (pre_get e5.pre a3)
          cases b with
          | false =>
            dsimp only at f6
            exact ⟨ρ6, h6, fr5, R6, Ev6, a6, rJ6, f6⟩
          | true =>
            dsimp only at f6
            refine ⟨fr5, ρ6, h6, by rw [eK]; exact R6, Ev6, ?_⟩
            cases ee : ev fr5 h6 with
            | ok y h7 =>
              rw [ee] at f6
              dsimp only at f6
              intro ρ7 H7 e7 R7 w rw_
              have Ev7 := Ev6.ext e7
              rw [eK] at e7 R7
              have f7 := fAt e7 f6
              have rJ7 := rJ6.ext e7
              have a7 := pre_get e7.pre a6
              cases eb : emit h1.n y h7 with
              | ok u h8 =>
                rw [eb] at f7
                dsimp only at f7
                unfold emit at eb
                split at eb
                · rename_i xs gx hcl
                  split at eb
                  · rename_i hf
                    cases eb
                    obtain ⟨vs, k1, k2⟩ := R7.lst gx a7
                    have hw : Wr (H7 D) := by rw [k1]; exact True.intro
                    have rwc := rw_.cl hcl
                    rw [eK] at rwc
                    have x8 : Ext X.K [] ρ7 h7 H7 ρ7 (h7.set h1.n (.lst (xs ++ [y]))) (upd H7 D (.lst (vs ++ [w]))) := Ext.set gx rfl hw
                    have R8 := R7.set gx a7 (fun z => z) hw (fun z => z) (u := .lst (vs ++ [w])) (o := .lst (xs ++ [y])) ⟨_, upd_same, (k2.app (VRs.one rwc)).ext x8⟩
                    refine ⟨vs, k1, ?_, ρ7, _, fr5, R8, Ev7.ext (by rw [eK]; exact x8), a7, rJ7.ext x8, fAt x8 f7⟩
                    have := fits_le hf
                    rw [← k2.length]
                    omega
                  · cases eb
                · cases eb
              | ex _ _ => rw [eb, hF] at f7; exact f7.elim
              | no => rw [eb, hF] at f7; exact f7.elim
            | ex _ _ => rw [ee, hF] at f6; exact f6.elim
            | no => rw [ee, hF] at f6; exact f6.elim
        | ex _ _ => rw [et, hF] at f5; exact f5.elim
        | no => rw [et, hF] at f5; exact f5.elim
      | _ => rw [ea, hF] at f4; exact f4.elim
theorem se_lc {pos : Pos} (L : LcOk T X tl own W scope ow elt tg iter ifs av tv ev fi) (hs : notSet iter = true) : PE X (.ListComp elt [⟨tg, iter, ifs, 0⟩] scope pos) (tE T X tl own W fr (lcE av tv ev fi (ow.map (·.2)) fr)) := by
  refine ⟨fun pins s σ H Q I q => ?_⟩
  rw [eval_ListComp]
  refine lc_own L.hc L.nd I (L.it fr) L.ok L.tg (fun XB b => ⟨fun pins s σ H Q I ⟨fr, q⟩ => (L.ts XB b fr).run pins s σ H Q I q⟩) (fun XB b => ⟨fun pins s σ H Q I ⟨fr, q⟩ => (L.el XB b fr).run pins s σ H Q I q⟩) (folded_not hs) (lc_read L q) fun D C s' m H' I' q hn f => ⟨m, hn, fun h2 sb => ?_⟩
  obtain ⟨f0, f1, f2, f3, f4, f5⟩ := f
  exact ⟨.ref D, H', I'.turned (t' := s'.toks) (fun b o hb e => (sb.2 b hb).trans e) f0 f1 f3 f4 f5, rfl, q⟩
end
end
end Py

/-! name = [.. for ..] on one line; targets that write no cell. -/
set_option Elab.async false
set_option linter.all false
set_option maxRecDepth 100000
noncomputable section
namespace Py
open PySem PySem.Spec PyProof.Rows L2
section
variable {T : Tb} {X XB : Cx} {tl : List (Addr × Str)} {own : List Nat} {W : WX} {σ : L2.St} {ρ ρ' ρ1 : List Addr} {h h' h1 : OHeap} {H H' H1 : Hp} {fr : Py.Frame} {K : PySem.W.Frag} {pins : List (Addr × Obj)} {s s1 : Shared} {scope : Scope} {ow : List (Str × Nat)} {ad : List Addr}
variable {elt tg iter : PySem.Expr} {ifs : List PySem.Expr} {av : AV} {tv : FB} {ev : FE} {fi : FI} {Q : VK}
/-- the comprehension's own names are not y -/
def notOwnB (scope : Scope) (y : Str) : Bool := !(scope.names.any fun (n, k) => n == y && (k == .local || k == .cell))
theorem ss_setLc {pos py spos : Pos} {i : Nat} {y : Str} (N : CxN X) (L : LcOk T X tl own W scope ow elt tg iter ifs av tv ev fi) (hs : notSet iter = true) (hk : X.env.scope.kind = .function) (hy : X.N[i]? = some y) (hyl : X.env.scope.names.lookup y = some .local)
    (hl : (py.line == pos.line) = true) (hn : notOwnB scope y = true) : QS X (.Assign [.Name y py] (.ListComp elt [⟨tg, iter, ifs, 0⟩] scope pos) spos) (tS T X tl own W (asgS (nameA i) (lcE av tv ev fi (ow.map (·.2))))) := by
  have nn : (scope.names.any fun (n, k) => n == y && (k == .local || k == .cell)) = false := by
    unfold notOwnB at hn
    simpa using hn
  refine ⟨fun pins s σ H D I q => ?_⟩
  obtain ⟨ρ, h, fr, R, Ev, q⟩ := q
  have q : tE T X tl own W fr (lcE av tv ev fi (ow.map (·.2)) fr) σ H fun v H' => ∃ x ρ' h', HR T X.K tl own ρ' h' H' ∧ EnvR T X own ρ' h' H' fr σ ∧ VT T X ρ' h' H' x v ∧ RunS T X tl own W D (match clean x with
      | true => nameA i x fr h'
      | false => .no) ρ' h' H' := toS R Ev q fun x ρ1 h1 H1 v e1 R1 Ev1 rv q1 => ⟨x, ρ1, h1, R1, Ev1, rv, q1⟩
  rw [exec_Assign_Name_used _ _ _ _ (sw_true hk hyl hl nn)]
  refine wpAny_bind (wpAny_standAt (wpAny_bind ?_))
  refine wpAny_bind (thn (lc_own (use := some (assign (.Name y py) X.env)) (pos' := firstIterPos [⟨tg, iter, ifs, 0⟩] pos) (Qf := fun _ s' => SP2 X pins D .next s') L.hc L.nd I (L.it fr) L.ok L.tg
    (fun XB b => ⟨fun pins s σ H Q I ⟨fr, q⟩ => (L.ts XB b fr).run pins s σ H Q I q⟩) (fun XB b => ⟨fun pins s σ H Q I ⟨fr, q⟩ => (L.el XB b fr).run pins s σ H Q I q⟩) (folded_not hs) (lc_read L q) fun d C s' m H' I' q hn f => ?_) fun _ s' z => wpAny_pure (wpAny_pure z))
  obtain ⟨x, ρ2, h2, R2, Ev2, rv, q⟩ := q
  obtain ⟨f0, f1, f2, f3, f4, f5⟩ := f
  refine wpAny_assign_Name (store_ok2 (v := V.ref d) I' N.nd hy (.inl hyl) rfl (fun s2 I2 ⟨a, sb, ha⟩ => ?_) (.inr hyl))
  have ne : C ≠ a := by
    rcases ha with z | z
    · rw [z]; exact f1
    · exact fun e => f4 y a z e.symm
  refine ⟨m, hn.sameBut sb ne, fun h3 sb3 => ⟨_, H', I2.turned (t' := s2.toks) (fun b o hb e => (sb3.2 b hb).trans e) f0 f1 f3 f4 f5, ?_⟩⟩
  split at q
  · unfold nameA at q
    split at q
    · rename_i fr' h4 e
      obtain ⟨e1, e2, e3⟩ := put_ok N hy (.inl hyl) R2 Ev2 rv e
      exact q ρ2 H' _ e1 e2 e3
    · exact q.elim
  · exact q.elim
/-- the same, of the frame alone -/
def NoC (vs : List Nat) (fr : Py.Frame) : Prop := ∀ j ∈ vs, ∀ a, fr[j]? ≠ some (Slot.c a)
def KeepsF (vs : List Nat) (av : AV) : Prop := ∀ v fr fr' h h', NoC vs fr → av v fr h = .nx fr' h' → h' = h ∧ NoC vs fr'
def KeepsFs (vs : List Nat) (av : AVs) : Prop := ∀ v fr fr' h h', NoC vs fr → av v fr h = .nx fr' h' → h' = h ∧ NoC vs fr'
theorem KeepsF.keeps {vs : List Nat} (k : KeepsF vs av) (hv : ∀ j ∈ vs, ∃ x, XB.N[j]? = some x ∧ XB.env.scope.names.lookup x = some .local) : KeepsH T XB own av := by
  intro ρ h H fr σ v fr' h' Ev e
  refine (k v fr fr' h h' (fun j hj a ef => ?_) e).1
  obtain ⟨x, hi, hl⟩ := hv j hj
  have z : SlotR T XB own ρ h H σ j x (some (.c a)) := by rw [← ef]; exact Ev.slot j x hi (.inl hl)
  obtain ⟨_, k, _⟩ := z
  have kl : XB.env.kindOf x = some .local := hl
  rcases k with k | k <;> (rw [show XB.env.kindOf x = _ from k] at kl; cases kl)
theorem keeps_name {vs : List Nat} {i : Nat} (hi : i ∈ vs) : KeepsF vs (nameA i) := by
  intro v fr fr' h h' n e
  unfold nameA at e
  split at e
  · rename_i fr2 h2 e2
    cases e
    unfold fput at e2
    split at e2
    · rename_i a ef
      exact absurd ef (n i hi a)
    · cases e2
      refine ⟨rfl, fun j hj a z => ?_⟩
      by_cases hji : i = j
      · subst hji
        by_cases hl : i < fr.length
        · rw [List.getElem?_set_self hl] at z
          cases z
        · rw [List.getElem?_eq_none (by simpa using hl)] at z
          cases z
      · rw [List.getElem?_set_ne hji] at z
        exact n j hj a z
    · cases e2
  · cases e
theorem keeps_nil {vs : List Nat} : KeepsFs vs nilA := by
  intro v fr fr' h h' n e
  unfold nilA at e
  split at e
  · cases e; exact ⟨rfl, n⟩
  · cases e
theorem keeps_cons {vs : List Nat} {t : AV} {ts : AVs} (k1 : KeepsF vs t) (k2 : KeepsFs vs ts) : KeepsFs vs (consA t ts) := by
  intro v fr fr' h h' n e
  unfold consA at e
  split at e
  · split at e
    · rename_i x xs _ fr2 h2 e2
      obtain ⟨rfl, n2⟩ := k1 _ _ _ _ _ n e2
      exact k2 _ _ _ _ _ n2 e
    · cases e
    · cases e
  · cases e
theorem keeps_tup {vs : List Nat} {n : Nat} {ts : AVs} (k : KeepsFs vs ts) : KeepsF vs (tupA n ts) := by
  intro v fr fr' h h' nc e
  unfold tupA at e
  split at e
  · split at e
    · exact k _ _ _ _ _ nc e
    · cases e
  · cases e
end
end Py

/-! A comprehension's block as a context. -/
set_option Elab.async false
set_option linter.all false
set_option maxRecDepth 100000
noncomputable section
namespace Py
open PySem PySem.Spec PyProof.Rows L2
section
variable {T : Tb} {X XB : Cx} {tl : List (Addr × Str)} {W : WX} {k : Nat} {N : List Str} {sc scope : Scope} {cm fb lb : Bool} {ow : List (Str × Nat)}
theorem takes_W0 : Takes X W0 := fun u s' ⟨_, _, _, _, _, _, _, _, _, _, _, _, _, _, _, _, w⟩ => w.elim
theorem CxOk.blk (C : CxOk T tl k X W N sc true fb lb) (B : IsB X scope XB) (ok : BlkOk N sc scope ow) : CxOk T tl k XB W0 N (relS scope sc) true false false := by
  obtain ⟨pins, σ, H, ad, s, I, had, rfl⟩ := B
  have ok' : BlkOk X.N X.env.scope scope ow := by rw [C.hN, C.hS]; exact ok
  have I4 := block_start I ok' C.cn.nd had
  have hS := C.hS
  exact { hN := C.hN, hS := by rw [← hS]; rfl, cn := ⟨C.cn.nd, I4.ok.inj⟩, calm := C.calm, fx := C.fx, hu := C.hu, gd := C.gd, room := C.room, tk := fun _ => takes_W0, po := fun _ => PassesOwn.never, fn := fun z => (by cases z), stk := fun z => (by cases z), lam := fun z => (by cases z) }
end
end Py

/-! a, b = x, y with two plain local names. -/
set_option Elab.async false
set_option linter.all false
set_option maxRecDepth 100000
noncomputable section
namespace Py
open PySem PySem.Spec PyProof.Rows L2
def isStarred : PySem.Expr → Bool
  | .Starred .. => true
  | _ => false
/-- the compiler exchanges the stores -/
def swap2B (px py : Pos) (x y : Str) (a b : PySem.Expr) : Bool := (py.line == px.line) && !(x == y) && noStar a && noStar b && !([a, b].all (foldedForSure 8)) && !([a, b].all (constantsAlone 8))
/-- or they are constants -/
def foldB : PySem.Expr → PySem.Expr → Bool
  | .Tuple _ _ _, .Tuple vs _ _ => vs.all (foldedForSure 8)
  | _, _ => false
theorem fold_ok {tg e : PySem.Expr} {env : Env} (h : foldB tg e = true) : swappedStores [tg] e env = pure none := by
  cases tg with
  | Tuple ts k p =>
    cases e with
    | Tuple vs k2 p2 =>
      have hv : vs.all (foldedForSure 8) = true := h
      unfold swappedStores
      dsimp only
      split
      · rfl
      · split
        · rfl
        · split
          · rfl
          · first | rfl | (rw [if_pos hv])
    | _ => exact Bool.noConfusion (show false = true from h)
  | _ => exact Bool.noConfusion (show false = true from h)
theorem swap2_ok {px py pt pt2 : Pos} {x y : Str} {a b : PySem.Expr} {kt k2} {env : Env} (hk : env.scope.kind = .function) (hx : env.scope.names.lookup x = some .local) (hy : env.scope.names.lookup y = some .local) (h : swap2B px py x y a b = true) :
    swappedStores [.Tuple [.Name x px, .Name y py] kt pt] (.Tuple [a, b] k2 pt2) env = pure (some [x, y]) := by
  unfold swap2B at h
  simp only [Bool.and_eq_true, Bool.not_eq_true'] at h
  obtain ⟨⟨⟨⟨⟨h1, h2⟩, h3⟩, h4⟩, h5⟩, h6⟩ := h
  have kx : env.kindOf x = some .local := hx
  have ky : env.kindOf y = some .local := hy
  have hb : env.blockKind = .function := by unfold Env.blockKind; rw [hk]; rfl
  have hne : ¬ x = y := fun z => by rw [z] at h2; simp at h2
  have hl : py.line = px.line := beq_iff_eq.mp h1
  have st : ([a, b].any fun | .Starred .. => true | _ => false) = false := by
    have : ∀ e : PySem.Expr, noStar e = true → (match e with | .Starred .. => true | _ => false) = false := fun e z => by
      cases e <;> first | rfl | exact Bool.noConfusion (show false = true from z)
    simp only [List.any_cons, List.any_nil, this a h3, this b h4, Bool.or_false]
  unfold swappedStores
  simp only [hb, st, h5, h6, List.filterMap_cons, List.filterMap_nil, kx, ky, List.head?_cons, Option.map_some, Option.getD_some, Expr.pos, hl]
  simp [hne, List.eraseDups_cons, Ne.symm hne]
  intro z
  exfalso
  rcases z with z | z
  · cases a <;> first | exact Bool.noConfusion z | exact Bool.noConfusion (show false = true from h3)
  · cases b <;> first | exact Bool.noConfusion z | exact Bool.noConfusion (show false = true from h4)
section
variable {T : Tb} {X : Cx} {tl : List (Addr × Str)} {own : List Nat} {W : WX} {σ : L2.St} {ρ ρ' : List Addr} {h h' : OHeap} {H H' : Hp} {fr : Py.Frame} {K : PySem.W.Frag} {pins : List (Addr × Obj)} {s : Shared} {D : Ends2}
variable {a b : PySem.Expr} {fa : FE} {pos p : Pos} {fas : FEs}
theorem ss_asgF {tg : PySem.Expr} {av : AV} (n : NxA av) (hn : notComp a = true) (hw : swappedStores [tg] a X.env = pure none) (hs : noStar tg = true) (ha : ∀ fr, PE X a (tE T X tl own W fr (fa fr))) (hg : PG X tg (tG T X tl own W av)) :
    QS X (.Assign [tg] a pos) (tS T X tl own W (asgS av fa)) := by
  refine ⟨fun pins s σ H D I q => ?_⟩
  obtain ⟨ρ, h, fr, R, Ev, q⟩ := q
  refine (qs_of (ps_asg (ha fr) hg (sole_not hn) hw (assign_cons hs)) fun _ _ _ z => z).run pins s σ H D I ?_
  refine toS R Ev q fun x ρ1 h1 H1 v e1 R1 Ev1 rv q1 => ?_
  split at q1
  · exact toTG n R1 Ev1 (rv.cl ‹_›) q1
  · exact q1.elim
theorem ss_par {i j : Nat} {x y : Str} {px py pt pt2 : Pos} {kt k2} (N : CxN X) (hc : X.calm = true) (hk : X.env.scope.kind = .function) (hi : X.N[i]? = some x) (hj : X.N[j]? = some y) (hx : X.env.scope.names.lookup x = some .local) (hy : X.env.scope.names.lookup y = some .local)
    (hw : swap2B px py x y a b = true) (ha : ∀ fr, PA X [a, b] (tAs T X tl own W fr (fas fr))) :
    QS X (.Assign [.Tuple [.Name x px, .Name y py] kt pt] (.Tuple [a, b] k2 pt2) pos) (tS T X tl own W (asgS (tupA 2 (consA (nameA i) (consA (nameA j) nilA))) fun fr => tupE (fas fr))) := by
  have hij : i ≠ j := fun z => by
    subst z
    rw [hi] at hj
    cases hj
    unfold swap2B at hw
    simp at hw
  refine ⟨fun pins s σ H D I q => ?_⟩
  obtain ⟨ρ, h, fr, R, Ev, q⟩ := q
  refine (qs_of (ps_par hc N.nd hi hj hij hx hy (ha fr) (swap2_ok hk hx hy hw)) fun _ _ _ z => z).run pins s σ H D I ?_
  refine ⟨ρ, h, R, Ev, ?_⟩
  have q : RunS T X tl own W D ((tupE (fas fr) h).toS fr fun x h => match clean x with
    | true => tupA 2 (consA (nameA i) (consA (nameA j) nilA)) x fr h
    | false => .no) ρ h H := q
  cases e : fas fr h with
  | ok xs h1 =>
    have e2 : tupE (fas fr) h = (match fits xs.length with
      | true => .ok (.tup xs) h1
      | false => .no) := by unfold tupE; rw [e]; all_goals rfl
    rw [e2] at q
    refine fun ρ1 H1 e1 R1 vs rv => ?_
    have Ev1 := Ev.ext e1
    have q := q.at e1.e
    split at q
    · have q : RunS T X tl own W D (tupA 2 (consA (nameA i) (consA (nameA j) nilA)) (.tup xs) fr h1) ρ1 h1 H1 := q
      unfold tupA at q
      dsimp only at q
      split at q
      · rename_i hb
        have hl := Nat.eq_of_beq_eq_true hb
        match xs, hl, rv, q with
        | [v1, v2], _, rv, q =>
          obtain ⟨y1, t1, rfl, r1, y2, t2, rfl, r2, r3⟩ := rv
          cases (show t2 = [] from r3)
          refine ⟨y1, y2, rfl, ?_⟩
          unfold consA at q
          dsimp only at q
          cases ef : fput fr i v1 h1 with
          | none => rw [show nameA i v1 fr h1 = .no by unfold nameA; rw [ef]] at q; exact q.elim
          | some z =>
            obtain ⟨fr2, h2⟩ := z
            rw [show nameA i v1 fr h1 = .nx fr2 h2 by unfold nameA; rw [ef]] at q
            obtain ⟨x2, R2, Ev2⟩ := put_ok N hi (.inl hx) R1 Ev1 (.inl r1) ef
            dsimp only [consA] at q
            cases eg : fput fr2 j v2 h2 with
            | none => rw [show nameA j v2 fr2 h2 = .no by unfold nameA; rw [eg]] at q; exact q.elim
            | some z =>
              obtain ⟨fr3, h3⟩ := z
              rw [show nameA j v2 fr2 h2 = .nx fr3 h3 by unfold nameA; rw [eg]] at q
              obtain ⟨x3, R3, Ev3⟩ := put_ok N hj (.inl hy) R2 Ev2 (.inl (r2.ext x2)) eg
              exact q ρ1 H1 _ (x2.tr x3) R3 Ev3
      · exact q.elim
    · exact q.elim
  | ex x h1 =>
    have e2 : tupE (fas fr) h = .ex x h1 := by unfold tupE; rw [e]; first | done | rfl
    rw [e2] at q
    intro ρ1 H1 p c fs e1 R1 hg hr
    exact q ρ1 H1 σ p c fs e1.e R1 (Ev.ext e1) hg hr
  | no =>
    have e2 : tupE (fas fr) h = .no := by unfold tupE; rw [e]; first | done | rfl
    rw [e2] at q
    exact q
end
end Py

/-! A lambda is made. -/
set_option Elab.async false
set_option linter.all false
set_option maxRecDepth 100000
noncomputable section
namespace Py
open PySem PySem.Spec PyProof.Rows L2
section
variable {T : Tb} {X : Cx} {tl : List (Addr × Str)} {own : List Nat} {W : WX} {σ : L2.St} {ρ ρ' : List Addr} {h h' : OHeap} {H H' H1 : Hp} {fr : Py.Frame} {K : PySem.W.Frag} {pins : List (Addr × Obj)} {s s1 : Shared} {D : Ends2}
theorem sqT_extN {p : Addr} {vs : List V} (e : LamX.ExtN H H') (r : SqT K H p vs) : SqT K H' p vs := by
  rcases r with (r | ⟨o, r⟩) | r
  · exact .inl (.inl (e _ _ r fun _ z => by cases z))
  · exact .inl (.inr ⟨o, e _ _ r fun _ z => by cases z⟩)
  · exact .inr r
theorem OR.noTbl {a : Nat} {p : Addr} {o : HObj} (r : OR T K ρ H own a p o) (n : ¬ loose own a o) : ∃ u, H p = some u ∧ ∀ ps, u ≠ .tbl ps := by
  cases o with
  | lst xs => obtain ⟨vs, e, _⟩ := r; exact ⟨_, e, fun _ z => by cases z⟩
  | rol xs => exact absurd True.intro n
  | dct kvs lk =>
    obtain ⟨es, _, e⟩ := r
    cases lk with
    | false => exact ⟨_, e, fun _ z => by cases z⟩
    | true => obtain ⟨o, e⟩ := e; exact ⟨_, e, fun _ z => by cases z⟩
  | ins c fs => obtain ⟨dx, fs', e, _⟩ := r; exact ⟨_, e, fun _ z => by cases z⟩
  | cell v =>
    rcases r with r | ⟨oc, e, _⟩
    · exact absurd r n
    · exact ⟨_, e, fun _ z => by cases z⟩
  | clo d caps => obtain ⟨fo, e, _⟩ := r; exact ⟨_, e, fun _ z => by cases z⟩
  | exc c fs => obtain ⟨fs', e, _⟩ := r; exact ⟨_, e, fun _ z => by cases z⟩
  | any => exact absurd True.intro n
theorem HR.extN (R : HR T K tl own ρ h H) (e : LamX.ExtN H H') (t : LamX.Tabs tl H') : HR T K tl own ρ h H' := by
  refine ⟨R.len, fun a p q => ?_, R.nd, t⟩
  obtain ⟨o, e1, r⟩ := R.obj a p q
  refine ⟨o, e1, r.mono (List.prefix_refl _) (fun _ _ z => sqT_extN e z) (fun _ _ _ z => e _ _ z fun _ z => by cases z) (fun _ _ z => e _ _ z fun _ z => by cases z) fun n => ?_⟩
  obtain ⟨u, hu, nt⟩ := r.noTbl n
  rw [hu]
  exact e _ _ hu nt
theorem Ext.extN (e : LamX.ExtN H H') : Ext K own ρ h H ρ h H' := ⟨List.prefix_refl _, fun _ _ z => sqT_extN e z, fun _ _ _ z _ => z⟩
/-- a new object, frozen from now on -/
theorem inv_tell {f : Addr} {o : Obj} {d : Addr} (I : Inv X pins σ H s1) (n : H f = none) (hf : X.s_0.heap.objs.size ≤ f) (hl : f ≠ X.env.locals) (hc : ∀ x c, X.env.cells.lookup x = some c → c ≠ f) (hp : ∀ p ∈ X.pn ++ pins, p.1 ≠ f) (ho : s1.heap.get? f = some o) :
    Inv X pins σ (upd H f (.frz o (.own d))) s1 := by
  have sm : ∀ {b : Addr} {u : HO}, H b = some u → upd H f (.frz o (.own d)) b = some u := fun {b u} e => by
    rw [upd_ne (ne_of_none e n)]
    exact e
  refine ⟨I.ok, I.os, I.bare, ⟨I.base.keep, I.base.slot, fun b o' e z hx => ?_, I.base.there, fun b xs e => sm (I.base.tups b xs e), fun b o' u e => sm (I.base.frzs b o' u e), fun b ps e => ?_⟩, I.loc, I.cell, ?_, fun x c e => ?_, fun p q => ?_, fun b u e => ?_, I.len⟩
  · rw [upd_ne (Nat.ne_of_lt (Nat.lt_of_lt_of_le (Heap.lt_size e) hf))]
    exact I.base.free b o' e z hx
  · obtain ⟨more, e2⟩ := I.base.tbls b ps e
    exact ⟨more, sm e2⟩
  · rw [upd_ne (Ne.symm hl)]
    exact I.free
  · rw [upd_ne (hc x c e)]
    exact I.freeC x c e
  · obtain ⟨p1, p2, p3⟩ := I.pin p q
    refine ⟨p1, ?_, p3⟩
    rw [upd_ne (hp p q)]
    exact p2
  · by_cases hb : b = f
    · subst hb
      rw [upd_same] at e
      cases e
      exact ⟨ho, o, ho⟩
    · rw [upd_ne hb] at e
      exact (I.hok b u e).stay (fun _ _ _ q => q) (fun _ q => sm q) fun _ _ q => sm q
/-- the lambda is made: a new function object -/
theorem lam_new {tl : List (Addr × Str)} {c Pt : Addr} {params : Arguments} {body : PySem.Expr} {scope : Scope} {pos : Pos} {E : Value → Shared → Prop} {Q : Value → Shared → Prop} (I : Inv X pins σ H s) (TB : LamX.TabB X.base X.mg c Pt) (hcode : X.env.code = .ref c)
    (hm : (Pt, X.env.qual ++ "<lambda>") ∈ tl) (hu : ∀ p ∈ tl, p.1 = Pt → p.2 = X.env.qual ++ "<lambda>") (hT : LamX.Tabs tl H) (hdef : defaultsOf params X.env = ([], [])) (hfree : ∀ y ∈ scope.names, y.2 = .free → ∃ c, X.env.cells.lookup y.1 = some c)
    (hq : ∀ (f c' : Addr) (pm ctv : Value) (H1 : Hp) (s' : Shared), Inv X pins σ H1 s' → LamX.ExtN H H1 → LamX.Tabs tl H1 → s'.heap.get? f = some (PySem.W.kla_obj "<lambda>" (X.env.qual ++ "<lambda>") params body scope (cloFrom X.env.cells scope.names []) pm c' ctv) →
      s.heap.objs.size ≤ f → H1 f = none → H1 c' = some (LamX.CodeO c' (X.env.qual ++ "<lambda>")) → Q (.ref f) s') : wpAny (model X.prog X.w) X.A (eval (.Lambda params body scope pos) X.env) Q E s := by
  obtain ⟨ps, hP, triples, told⟩ := hT _ hm
  have oP : s.heap.get? Pt = some { cls := .none, data := .fields ps } := I.hok Pt _ hP
  have blt : s.heap.BuiltinsAt X.mg Pt := TB.bm.keeps I.bk
  refine PySem.W.kla_eval hdef ?_
  cases hc : codeAmong pos ps.toList with
  | some cv =>
    obtain ⟨c', rfl, hco⟩ := told pos cv hc
    refine PySem.W.kla_makeFunctionHit (mg := X.mg) (c := c) (P := Pt) (ps := ps) (closure_ok hfree) I.ok.glob (I.mod.glob.keeps I.bk) hcode (TB.code.keeps I.bk) oP triples hc blt fun ctv g tk hx hsz => ?_
    refine hq g.objs.size c' ((X.mg "__name__").getD .none) ctv H _ (I.kept (t' := tk) fun b o e => Heap.get?_push_of_some _ (hx b o e)) (LamX.ExtN.refl H) hT (Heap.get?_push_size _ rfl) hsz (I.hok.fresh hsz) hco
  | none =>
    refine PySem.W.kla_makeFunction (mg := X.mg) (c := c) (P := Pt) (ps := ps) (closure_ok hfree) I.ok.glob (I.mod.glob.keeps I.bk) hcode (TB.code.keeps I.bk) oP triples hc TB.gP blt fun c' ctv g tk hx hge hlt hrec htb => ?_
    obtain ⟨c2, oc, vs, t, e2, hoc, hd, hv⟩ := hrec
    cases e2
    have big : s.heap.objs.size ≤ g.objs.size := Nat.le_trans hge (Nat.le_of_lt hlt)
    have nC : H c' = none := I.hok.fresh hge
    have nPC : Pt ≠ c' := ne_of_none hP nC
    have nFC : g.objs.size ≠ c' := Nat.ne_of_gt hlt
    have nFP : g.objs.size ≠ Pt := Nat.ne_of_gt (Nat.lt_of_lt_of_le (Heap.lt_size oP) big)
    have J := LamX.inv_table (q := X.env.qual ++ "<lambda>") (c := c') (t' := tk) (more := #[rawInt pos.line, rawInt pos.col, .ref c']) (h' := g.push (PySem.W.kla_obj "<lambda>" (X.env.qual ++ "<lambda>") params body scope (cloFrom X.env.cells scope.names []) ((X.mg "__name__").getD .none) c' ctv)) I hP
      (fun b o z e => Heap.get?_push_of_some _ (hx b o z e)) (Heap.get?_push_of_some _ htb) hge ⟨oc, vs, t, Heap.get?_push_of_some _ hoc, hd, hv⟩
    have kept : LamX.ExtN H (upd (upd H Pt (.tbl (ps ++ #[rawInt pos.line, rawInt pos.col, .ref c']))) c' (LamX.CodeO c' (X.env.qual ++ "<lambda>"))) := fun b o e nt => by
      have b1 : b ≠ c' := ne_of_none e nC
      have b2 : b ≠ Pt := fun z => by
        rw [z, hP] at e
        exact nt ps (Option.some.inj e).symm
      rw [upd_ne b1, upd_ne b2]
      exact e
    have lst : (ps ++ #[rawInt pos.line, rawInt pos.col, .ref c']).toList = ps.toList ++ [rawInt pos.line, rawInt pos.col, .ref c'] := by simp
    refine hq g.objs.size c' ((X.mg "__name__").getD .none) ctv _ _ J kept (fun p hp => ?_) (Heap.get?_push_size _ rfl) big ?_ upd_same
    · by_cases hb : p.1 = Pt
      · rw [hb, hu p hp hb]
        refine ⟨_, by rw [upd_ne nPC, upd_same], by rw [lst]; exact PySem.TriplesOk_snoc _ _ _ _ triples, fun p' cv z => ?_⟩
        rw [lst] at z
        rcases LamX.among_app _ triples z with z | z
        · obtain ⟨d, e1, e2⟩ := told p' cv z
          exact ⟨d, e1, kept _ _ e2 LamX.codeO_ne⟩
        · exact ⟨c', z, upd_same⟩
      · obtain ⟨qs, a1, a2, a3⟩ := hT p hp
        refine ⟨qs, by rw [upd_ne (ne_of_none a1 nC), upd_ne hb]; exact a1, a2, fun p' cv z => ?_⟩
        obtain ⟨d, e1, e2⟩ := a3 p' cv z
        exact ⟨d, e1, kept _ _ e2 LamX.codeO_ne⟩
    · rw [upd_ne nFC, upd_ne nFP]
      exact I.hok.fresh big
end
end Py

/-! A lambda, as an expression. -/
set_option Elab.async false
set_option linter.all false
set_option maxRecDepth 100000
noncomputable section
namespace Py
open PySem PySem.Spec PyProof.Rows L2
/-- what is captured -/
def capsB (N : List Str) (sc scope : Scope) (cells : List Nat) : Bool := scope.names.all fun y => match y.2 with
  | .free => (cells.any fun j => decide (N[j]? = some y.1)) && (decide (sc.names.lookup y.1 = some .cell) || decide (sc.names.lookup y.1 = some .free))
  | _ => true
def lamE (Pg : Prog) (d : Nat) : FE := fun fr h => (match Pg.dfns.get d with
    | some D => (match capsOf D.cells fr with
      | some caps => .ok (.obj h.n) (h.push (.clo d caps))
      | none => .no)
    | none => .no)
section
variable {T : Tb} {X : Cx} {tl : List (Addr × Str)} {own : List Nat} {W : WX} {σ : L2.St} {ρ ρ' : List Addr} {h h' : OHeap} {H H' H1 : Hp} {fr : Py.Frame} {K : PySem.W.Frag} {pins : List (Addr × Obj)} {s s1 : Shared}
theorem capsOf_at : ∀ {cells : List Nat} {fr : Py.Frame} {caps : List (Nat × Nat)} {j : Nat}, capsOf cells fr = some caps → j ∈ cells → ∃ b, lookN j caps = some b ∧ fr[j]? = some (Slot.c b)
  | [], _, _, _, _, hj => by simp at hj
  | i :: r, fr, caps, j, e, hj => by
    unfold capsOf at e
    split at e
    · rename_i a l ef el
      cases e
      unfold lookN
      cases hb : Nat.beq i j with
      | true =>
        have : i = j := Nat.eq_of_beq_eq_true hb
        subst this
        exact ⟨a, rfl, ef⟩
      | false =>
        rcases List.mem_cons.mp hj with z | z
        · subst z
          rw [Nat.beq_refl] at hb
          cases hb
        · exact capsOf_at el z
    · cases e
theorem se_lam {d : Nat} {L : LT} {Df : Dfn} {pos : Pos} (hL : T.lt d L) (hD : T.P.dfns.get d = some Df) (hN : L.N = X.N) (hq : L.qual = X.env.qual ++ "<lambda>") (hdef : defaultsOf L.params X.env = ([], [])) (hc : capsB X.N X.env.scope L.scope Df.cells = true)
    (lam : ∃ c Pt, X.env.code = .ref c ∧ LamX.TabB X.base X.mg c Pt ∧ (Pt, X.env.qual ++ "<lambda>") ∈ tl ∧ ∀ p ∈ tl, p.1 = Pt → p.2 = X.env.qual ++ "<lambda>") :
    PE X (.Lambda L.params L.body L.scope pos) (tE T X tl own W fr (lamE T.P d fr)) := by
  refine ⟨fun pins s σ H Q I ⟨ρ, h, R, Ev, q⟩ => ?_⟩
  unfold lamE at q
  rw [hD] at q
  dsimp only at q
  cases ec : capsOf Df.cells fr with
  | none => rw [ec] at q; exact q.elim
  | some caps =>
    rw [ec] at q
    dsimp only at q
    obtain ⟨c, Pt, hcode, TB, hm, hu⟩ := lam
    have fr1 : ∀ y ∈ L.scope.names, y.2 = .free → (∃ j ∈ Df.cells, X.N[j]? = some y.1) ∧ (X.env.scope.names.lookup y.1 = some .cell ∨ X.env.scope.names.lookup y.1 = some .free) := fun y hy e => by
      have z := List.all_eq_true.mp hc y hy
      rw [e] at z
      simp only [Bool.and_eq_true, Bool.or_eq_true, List.any_eq_true, decide_eq_true_eq] at z
      exact z
    have has : ∀ y ∈ L.scope.names, y.2 = .free → ∃ c, X.env.cells.lookup y.1 = some c := fun y hy e => I.ok.has _ (fr1 y hy e).2
    refine lam_new I TB hcode hm hu R.tab hdef has fun f c' pm ctv H1 s' I1 eN tabs hf big hfn hco => ?_
    have hl : f ≠ X.env.locals := Nat.ne_of_gt (Nat.lt_of_lt_of_le I.lt big)
    have J := inv_tell (d := 1) I1 hfn (Nat.le_trans I.sz big) hl (fun x c e => by
        obtain ⟨v, z⟩ := I.cell x c e
        exact Nat.ne_of_lt (Nat.lt_of_lt_of_le z.lt big)) (fun p hp => by
        obtain ⟨z, _⟩ := I.pin p hp
        exact Nat.ne_of_lt (Nat.lt_of_lt_of_le (Heap.lt_size z) big)) hf
    have R1 := R.extN eN tabs
    have x1 : Ext X.K [] ρ h H ρ h H1 := Ext.extN eN
    generalize hfo : PySem.W.kla_obj "<lambda>" (X.env.qual ++ "<lambda>") L.params L.body L.scope (cloFrom X.env.cells L.scope.names []) pm c' ctv = fo at J
    have x2 : Ext X.K [] ρ h H1 (ρ ++ [f]) (h.push (.clo d caps)) (upd H1 f (.frz fo (.own 1))) := Ext.push hfn
    have R2 : HR T X.K tl own (ρ ++ [f]) (h.push (.clo d caps)) (upd H1 f (.frz fo (.own 1))) := by
      refine R1.push hfn (fun z => z) ⟨fo, upd_same, L, cloFrom X.env.cells L.scope.names [], pm, c', ctv, hL, by rw [hq]; exact hfo.symm, ?_, fun n a e => ?_, fun y hy e => mem_lookup (cloFrom_has (cells := X.env.cells) (acc := []) (by rw [← e]; exact hy))⟩
      · rw [upd_ne (ne_of_none hco hfn), hq]
        exact hco
      · rcases cloFrom_mem (PySem.mem_of_lookup e) with z | ⟨z1, z2⟩
        · cases z
        · obtain ⟨⟨j, hj, en⟩, kx⟩ := fr1 _ z1 rfl
          obtain ⟨b, k1, k2⟩ := capsOf_at ec hj
          have zz : SlotR T X own ρ h H σ j n (some (.c b)) := by rw [← k2]; exact Ev.slot j n en (.inr kx)
          obtain ⟨_, _, a', v, g1, g2, _⟩ := zz
          refine ⟨j, b, by rw [hN]; exact en, k1, ?_⟩
          rw [z2, g1]
          exact pre_get (List.prefix_append _ _) g2
    exact ⟨.ref f, _, J, rfl, q _ _ (x1.tr x2) R2 (.ref f) (.inl ⟨f, rfl, at_new R⟩)⟩
end
end Py

/-! A lambda is called: what its captured cells are. -/
set_option Elab.async false
set_option linter.all false
set_option maxRecDepth 100000
noncomputable section
namespace Py
open PySem PySem.Spec PyProof.Rows L2
section
variable {T : Tb} {tl : List (Addr × Str)} {K : PySem.W.Frag} {ρ ρ' ρ1 : List Addr} {h h' h1 : OHeap} {H H' H1 : Hp} {g g1 : Heap} {P : Program} {w : World}
theorem lookN_mem : ∀ {l : List (Nat × Nat)} {j b : Nat}, lookN j l = some b → (j, b) ∈ l
  | [], _, _, e => by cases e
  | (i, a) :: r, j, b, e => by
    unfold lookN at e
    split at e
    · rename_i hb
      have : i = j := Nat.eq_of_beq_eq_true hb
      subst this
      cases e
      exact List.mem_cons_self
    · exact List.mem_cons_of_mem _ (lookN_mem e)
theorem capsGood_at : ∀ {caps : List (Nat × Nat)} {j b : Nat}, capsGood h caps = true → (j, b) ∈ caps → ∃ x, h.get b = some (.cell (some x))
  | [], _, _, _, e => by cases e
  | (i, a) :: r, j, b, g, e => by
    unfold capsGood at g
    simp only [Bool.and_eq_true] at g
    obtain ⟨⟨g1, _⟩, g3⟩ := g
    rcases List.mem_cons.mp e with z | z
    · cases z
      split at g1
      · rename_i x e1
        exact ⟨x, e1⟩
      · cases g1
    · exact capsGood_at g3 z
theorem capsGood_inj : ∀ {caps : List (Nat × Nat)} {i j b : Nat}, capsGood h caps = true → (i, b) ∈ caps → (j, b) ∈ caps → i = j
  | [], _, _, _, _, e, _ => by cases e
  | (k, a) :: r, i, j, b, g, e1, e2 => by
    unfold capsGood at g
    simp only [Bool.and_eq_true, Bool.not_eq_true'] at g
    obtain ⟨⟨_, g2⟩, g3⟩ := g
    have no : ∀ {q : Nat}, (q, a) ∉ r := fun {q} z => by
      have := List.any_eq_false.mp g2 (q, a) z
      simp at this
    rcases List.mem_cons.mp e1 with z1 | z1
    · rcases List.mem_cons.mp e2 with z2 | z2
      · cases z1; cases z2; rfl
      · cases z1; exact absurd z2 no
    · rcases List.mem_cons.mp e2 with z2 | z2
      · cases z2; exact absurd z1 no
      · exact capsGood_inj g3 z1 z2
theorem putCaps_get : ∀ {caps : List (Nat × Nat)} {fr : Py.Frame} {j : Nat} {sl : Slot}, capsGood h caps = true → (putCaps caps fr)[j]? = some sl → (∃ a, sl = .c a ∧ lookN j caps = some a) ∨ fr[j]? = some sl
  | [], fr, j, sl, _, e => .inr e
  | (i, b) :: r, fr, j, sl, g, e => by
    unfold capsGood at g
    simp only [Bool.and_eq_true, Bool.not_eq_true'] at g
    obtain ⟨⟨_, g2⟩, g3⟩ := g
    rcases putCaps_get (fr := fr.set i (.c b)) g3 e with ⟨a, e1, e2⟩ | e1
    · refine .inl ⟨a, e1, ?_⟩
      have := List.any_eq_false.mp g2 (j, a) (lookN_mem e2)
      unfold lookN
      cases hb : Nat.beq i j with
      | true =>
        have : i = j := Nat.eq_of_beq_eq_true hb
        subst this
        simp at this
      | false => exact e2
    · by_cases hij : i = j
      · subst hij
        by_cases hl : i < fr.length
        · rw [List.getElem?_set_self hl] at e1
          refine .inl ⟨b, (Option.some.inj e1).symm, ?_⟩
          unfold lookN
          rw [Nat.beq_refl]
        · rw [List.getElem?_eq_none (by simpa using hl)] at e1
          cases e1
      · rw [List.getElem?_set_ne hij] at e1
        exact .inr e1
/-- the captured cells, all of them cells of names -/
structure CapR (T : Tb) (K : PySem.W.Frag) (ρ : List Addr) (h : OHeap) (H : Hp) (g : Heap) (N : List Str) (cl : List (Str × Addr)) (caps : List (Nat × Nat)) : Prop where
  at_ : ∀ n c, cl.lookup n = some c → ∃ j b x oc u y, N[j]? = some n ∧ lookN j caps = some b ∧ ρ[b]? = some c ∧ h.get b = some (.cell (some x)) ∧ H c = some (.frz oc (.own 0)) ∧ g.get? c = some oc ∧ oc.data = .cell (some u) ∧ RelV y u ∧ VR T K ρ H x y
  inj : ∀ n m c, cl.lookup n = some c → cl.lookup m = some c → n = m
theorem capR {own : List Nat} {N : List Str} {cl : List (Str × Addr)} {caps : List (Nat × Nat)} (R : HR T K tl [] ρ h H) (hok : HOk P w H g) (hg : capsGood h caps = true) (hc : ∀ n c, cl.lookup n = some c → ∃ j b, N[j]? = some n ∧ lookN j caps = some b ∧ ρ[b]? = some c) : CapR T K ρ h H g N cl caps := by
  refine ⟨fun n c e => ?_, fun n m c e1 e2 => ?_⟩
  · obtain ⟨j, b, h1, h2, h3⟩ := hc n c e
    obtain ⟨x, hx⟩ := capsGood_at hg (lookN_mem h2)
    rcases R.atp hx h3 with z | ⟨oc, k1, k2⟩
    · cases z
    · obtain ⟨u, y, q1, q2, q3⟩ := k2 x rfl
      exact ⟨j, b, x, oc, u, y, h1, h2, h3, hx, k1, (hok c _ k1).1, q1, q2, q3⟩
  · obtain ⟨j, b, h1, h2, h3⟩ := hc n c e1
    obtain ⟨i, d, k1, k2, k3⟩ := hc m c e2
    obtain ⟨x, hx⟩ := capsGood_at hg (lookN_mem h2)
    obtain ⟨y, hy⟩ := capsGood_at hg (lookN_mem k2)
    have : b = d := R.nd b d _ _ c hx hy (fun z => by cases z) (fun z => by cases z) h3 k3
    subst this
    have := capsGood_inj hg (lookN_mem h2) (lookN_mem k2)
    subst this
    rw [h1] at k1
    exact Option.some.inj k1
end
end Py

/-! A lambda is called: the heap that its body sees. -/
set_option Elab.async false
set_option linter.all false
set_option maxRecDepth 100000
noncomputable section
namespace Py
open PySem PySem.Spec PyProof.Rows L2
section
variable {T : Tb} {tl : List (Addr × Str)} {K : PySem.W.Frag} {ρ ρ' ρ1 : List Addr} {h h' h1 : OHeap} {H H' H1 : Hp} {g g1 : Heap} {P : Program} {w : World} {N : List Str} {cl : List (Str × Addr)} {caps : List (Nat × Nat)} {own : List Nat}
def IsCap (ρ : List Addr) (N : List Str) (cl : List (Str × Addr)) (caps : List (Nat × Nat)) (a : Nat) : Prop := ∃ n j c, cl.lookup n = some c ∧ N[j]? = some n ∧ lookN j caps = some a ∧ ρ[a]? = some c
open Classical in
theorem cap_own (C : CapR T K ρ h H g N cl caps) : ∃ own : List Nat, ∀ a, a ∈ own ↔ IsCap ρ N cl caps a := by
  refine ⟨(caps.map (·.2)).filter fun a => decide (IsCap ρ N cl caps a), fun a => ⟨fun z => ?_, fun z => ?_⟩⟩
  · exact of_decide_eq_true (List.mem_filter.mp z).2
  · obtain ⟨n, j, c, h1, h2, h3, h4⟩ := id z
    exact List.mem_filter.mpr ⟨List.mem_map.mpr ⟨(j, a), lookN_mem h3, rfl⟩, decide_eq_true z⟩
/-- what a captured cell is -/
theorem cap_at (C : CapR T K ρ h H g N cl caps) (nd : N.Nodup) {a : Nat} (z : IsCap ρ N cl caps a) : ∃ n j c x oc u y, cl.lookup n = some c ∧ N[j]? = some n ∧ lookN j caps = some a ∧ ρ[a]? = some c ∧ h.get a = some (.cell (some x)) ∧ H c = some (.frz oc (.own 0)) ∧ g.get? c = some oc ∧ oc.data = .cell (some u) ∧ RelV y u ∧ VR T K ρ H x y := by
  obtain ⟨n, j, c, k1, k2, k3, k4⟩ := z
  obtain ⟨j', b, x, oc, u, y, q1, q2, q3, q4, q5, q6, q7, q8, q9⟩ := C.at_ n c k1
  have : j' = j := nodup_ix nd q1 k2
  subst this
  rw [k3] at q2
  cases q2
  exact ⟨n, j', c, x, oc, u, y, k1, k2, k3, k4, q4, q5, q6, q7, q8, q9⟩
theorem cap_hr (C : CapR T K ρ h H g N cl caps) (nd : N.Nodup) (R : HR T K tl [] ρ h H) (ho : ∀ a, a ∈ own ↔ IsCap ρ N cl caps a) : HR T K tl own ρ h (untH ρ own H) ∧ ∀ p vs, SqT K H p vs → SqT K (untH ρ own H) p vs :=
  untrack (fun a ha => by
    obtain ⟨n, j, c, x, oc, u, y, _, _, _, k4, k5, k6, _⟩ := cap_at C nd ((ho a).mp ha)
    exact ⟨c, oc, _, k4, k6, k5⟩) (List.prefix_refl _) R
theorem cap_hok (C : CapR T K ρ h H g N cl caps) (nd : N.Nodup) (ho : ∀ a, a ∈ own ↔ IsCap ρ N cl caps a) (x : HOk P w H g) : HOk P w (untH ρ own H) g := fun b o e => by
  have st : ∀ {c : Addr} {o : HO}, H c = some o → (∀ oc, o ≠ .frz oc (.own 0)) → untH ρ own H c = some o := fun {c o} q n => by
    rw [unt_ne]
    · exact q
    · rintro ⟨a, ha, ea⟩
      obtain ⟨_, _, c', _, oc, _, _, _, _, _, k4, _, k6, _⟩ := cap_at C nd ((ho a).mp ha)
      rw [ea] at k4
      cases k4
      rw [q] at k6
      exact n oc (Option.some.inj k6)
  by_cases c : isC ρ own b
  · rw [unt_at c] at e
    cases e
  · rw [unt_ne c] at e
    exact (x b o e).stay (fun _ _ _ q => q) (fun _ q => st q fun _ z => by cases z) fun _ _ q => st q fun _ z => by cases z
/-- the frame of the base for the body -/
theorem cap_env0 {mg : Str → Option Value} {base : Heap} {A : Around} {outer : List Env} {s : Shared} (C : CapR T K ρ h H s.heap N cl caps) (nd : N.Nodup) (ho : ∀ a, a ∈ own ↔ IsCap ρ N cl caps a) (e : Env0 P w K mg base A outer s H) : Env0 P w K mg base A outer s (untH ρ own H) := by
  have no : ∀ {b : Addr}, H b = none → untH ρ own H b = none := fun {b} n => by
    by_cases c : isC ρ own b
    · exact unt_at c
    · rw [unt_ne c]; exact n
  exact ⟨e.frames, e.mod, fun b o q => ⟨(e.bs b o q).1, no (e.bs b o q).2⟩, e.bsz, e.funs, fun b hb => no (e.frf b hb), cap_hok C nd ho e.hok, e.bare⟩
end
end Py

/-! A lambda is called: its frame. -/
set_option Elab.async false
set_option linter.all false
set_option maxRecDepth 100000
noncomputable section
namespace Py
open PySem PySem.Spec PyProof.Rows L2
/-- no parameter, no name of its own -/
structure LamO (scope : Scope) : Prop where
  kind : scope.kind = .function
  co : scope.isCoroutine = false
  gen : scope.isGenerator = false
  own : ∀ y ∈ scope.names, y.2 ≠ .local ∧ y.2 ≠ .cell
def lamOB (scope : Scope) : Bool := decide (scope.kind = .function) && !scope.isCoroutine && !scope.isGenerator && scope.names.all fun y => !decide (y.2 = .local) && !decide (y.2 = .cell)
theorem lamO_by {scope : Scope} (h : lamOB scope = true) : LamO scope := by
  unfold lamOB at h
  simp only [Bool.and_eq_true, Bool.not_eq_true', List.all_eq_true, decide_eq_true_eq, decide_eq_false_iff_not] at h
  obtain ⟨⟨⟨h1, h2⟩, h3⟩, h4⟩ := h
  exact ⟨h1, h2, h3, h4⟩
/-- the environment of a lambda's body; its context -/
abbrev lamV (nm : Str) (scope : Scope) (L p c : Addr) (cl : List (Str × Addr)) : Env := PySem.W.envX nm scope L p (.ref c) cl
def lamX (P : Program) (w : World) (K : PySem.W.Frag) (mg : Str → Option Value) (base : Heap) (A : Around) (outer : List Env) (s : Shared) (H : Hp) (E : XK) (nm : Str) (scope : Scope) (p c : Addr) (cl : List (Str × Addr)) (N : List Str) : Cx where
  prog := P
  w := w
  K := K
  mg := mg
  base := base
  A := A.deeper (lamV nm scope s.heap.objs.size p c cl)
  N := N
  s_0 := s
  H_0 := H
  env := lamV nm scope s.heap.objs.size p c cl
  outer := outer
  stack := lamV nm scope s.heap.objs.size p c cl :: outer
  ex := []
  fn := fun _ => false
  calm := true
  pn := []
  xe := fun e t => wpAny (model P w) (A.deeper (lamV nm scope s.heap.objs.size p c cl)) (leaving (lamV nm scope s.heap.objs.size p c cl) e) (fun _ t' => L2.CX P w outer H s E e t') (fun e' t' => L2.CX P w outer H s E e' t') t
section
variable {P : Program} {w : World} {K : PySem.W.Frag} {mg : Str → Option Value} {base : Heap} {A : Around} {outer : List Env} {s : Shared} {H : Hp} {E : XK} {nm : Str} {scope : Scope} {p c : Addr} {cl : List (Str × Addr)} {N : List Str} {σ : L2.St}
theorem lamX_start {h₁ : Heap} {tk : Nat} (e0 : Env0 P w K mg base A outer s H) (hd : A.handled = none) (L : LamO scope) (cap : ∀ y a, cl.lookup y = some a → H a = none ∧ ∃ u, s.heap.IsCell a (some u)) (inj : ∀ y z a, cl.lookup y = some a → cl.lookup z = some a → y = z)
    (has : ∀ y ∈ scope.names, y.2 = .free → ∃ a, cl.lookup y.1 = some a) (hns : h₁.Ns s.heap.objs.size fun y => ([] : List (Str × Value)).reverse.lookup y) (kp : ∀ b o, s.heap.get? b = some o → h₁.get? b = some o) (len : σ.length = N.length)
    (val : ∀ (i : Nat) (y : Str) (v : V), N[i]? = some y → σ[i]? = some (some v) → Vis scope y → ∃ a u, cl.lookup y = some a ∧ s.heap.IsCell a (some u) ∧ RelV v u) : Inv (lamX P w K mg base A outer s H E nm scope p c cl N) [] σ H { s with heap := h₁, toks := tk } := by
  have still : ∀ {a : Addr} {v : Option Value}, s.heap.IsCell a v → h₁.IsCell a v := fun {a v} ⟨o, ho, hv⟩ => ⟨o, kp _ _ ho, hv⟩
  have noEx : ∀ b : Addr, b ∉ (lamX P w K mg base A outer s H E nm scope p c cl N).ex := fun b z => nomatch (show b ∈ ([] : List Addr) from z)
  have fre : ∀ {y : Str}, Vis scope y → scope.names.lookup y = some .free := fun {y} v => by
    rcases v with v | v | v
    · exact absurd rfl (L.own _ (PySem.mem_of_lookup v)).1
    · exact absurd rfl (L.own _ (PySem.mem_of_lookup v)).2
    · exact v
  have okX : (lamX P w K mg base A outer s H E nm scope p c cl N).Ok := by
    refine ⟨e0.mod, L.kind, rfl, rfl, Nat.le_refl _, inj, fun y hy => ?_, fun y a z _ => (nomatch (show false = true from z)), fun _ => hd, Around.frames_deeper e0.frames, .inr ⟨rfl, rfl⟩, fun b z => absurd z (noEx b), e0.bs, e0.bsz, fun b _ _ => noEx b, fun b z => absurd z (noEx b), e0.funs, e0.frf⟩
    have hy : scope.names.lookup y = some .cell ∨ scope.names.lookup y = some .free := hy
    have hf := fre (y := y) (.inr hy)
    exact has _ (PySem.mem_of_lookup hf) rfl
  refine ⟨okX, rfl, e0.bare, Un.kept kp, ⟨_, hns, fun i y v e1 e2 e3 => ?_⟩, fun y a e => ?_, e0.hok.fresh (Nat.le_refl _), fun y a e => (cap y a e).1, fun q hq => (nomatch (show q ∈ ([] : List (Addr × Obj)) from hq)), e0.hok.kept kp, len⟩
  · obtain ⟨a, u, k1, k2, k3⟩ := val i y v e1 e2 e3
    exact ⟨u, k3, .inr ⟨.inr (fre e3), a, k1, still k2⟩⟩
  · obtain ⟨u, z⟩ := (cap y a e).2
    exact ⟨some u, still z⟩
end
end Py

/-! A lambda is called: its frame's reading. -/
set_option Elab.async false
set_option linter.all false
set_option maxRecDepth 100000
noncomputable section
namespace Py
open PySem PySem.Spec PyProof.Rows L2
section
variable {T : Tb} {tl : List (Addr × Str)} {P : Program} {w : World} {K : PySem.W.Frag} {mg : Str → Option Value} {base : Heap} {A : Around} {outer : List Env} {s : Shared} {H : Hp} {E : XK} {nm : Str} {scope : Scope} {p c : Addr} {cl : List (Str × Addr)} {N : List Str} {σ : L2.St} {ρ : List Addr} {h : OHeap} {caps : List (Nat × Nat)} {own : List Nat}
def CapV (T : Tb) (K : PySem.W.Frag) (ρ : List Addr) (h : OHeap) (H : Hp) (g : Heap) (cl : List (Str × Addr)) (n : Str) (y : V) : Prop := ∃ a u b x, cl.lookup n = some a ∧ g.IsCell a (some u) ∧ RelV y u ∧ ρ[b]? = some a ∧ h.get b = some (.cell (some x)) ∧ VR T K ρ H x y
open Classical in
noncomputable def capSt (T : Tb) (K : PySem.W.Frag) (ρ : List Addr) (h : OHeap) (H : Hp) (g : Heap) (cl : List (Str × Addr)) (N : List Str) : L2.St := N.map fun n => if z : ∃ y, CapV T K ρ h H g cl n y then some z.choose else none
theorem capSt_len {g : Heap} : (capSt T K ρ h H g cl N).length = N.length := by unfold capSt; rw [List.length_map]
open Classical in
theorem capSt_at {g : Heap} {i : Nat} {n : Str} {y : V} (hi : N[i]? = some n) (e : (capSt T K ρ h H g cl N)[i]? = some (some y)) : CapV T K ρ h H g cl n y := by
  unfold capSt at e
  rw [List.getElem?_map, hi] at e
  have e : (if z : ∃ y, CapV T K ρ h H g cl n y then some z.choose else none) = some y := Option.some.inj e
  split at e
  · rename_i z
    cases e
    exact z.choose_spec
  · cases e
open Classical in
theorem capSt_has {g : Heap} {i : Nat} {n : Str} {y : V} (hi : N[i]? = some n) (z : CapV T K ρ h H g cl n y) : ∃ y', (capSt T K ρ h H g cl N)[i]? = some (some y') := by
  unfold capSt
  rw [List.getElem?_map, hi]
  have z' : ∃ y, CapV T K ρ h H g cl n y := ⟨y, z⟩
  refine ⟨z'.choose, ?_⟩
  show some (if z : ∃ y, CapV T K ρ h H g cl n y then some z.choose else none) = _
  rw [dif_pos z']
/-- the captured cells, for the body's frame -/
theorem cap_env (C : CapR T K ρ h H s.heap N cl caps) (nd : N.Nodup) (R : HR T K tl [] ρ h H) (ho : ∀ a, a ∈ own ↔ IsCap ρ N cl caps a) (e0 : Env0 P w K mg base A outer s H) (hg : capsGood h caps = true) (L : LamO scope) (has : ∀ y ∈ scope.names, y.2 = .free → ∃ a, cl.lookup y.1 = some a) {ns : Nat}
    (hX : ∀ b ∈ frs (lamX P w K mg base A outer s (untH ρ own H) E nm scope p c cl N).stack, b = s.heap.objs.size ∨ b ∈ frs outer) :
    EnvR T (lamX P w K mg base A outer s (untH ρ own H) E nm scope p c cl N) own ρ h (untH ρ own H) (putCaps caps (List.replicate ns .n)) (capSt T K ρ h (untH ρ own H) s.heap cl N) := by
  have tp := (cap_hr C nd R ho).2
  have same : ∀ {a b : Nat} {d : Addr} {x y : Option PV}, ρ[a]? = some d → ρ[b]? = some d → h.get a = some (.cell x) → h.get b = some (.cell y) → a = b := fun {a b d x y} e1 e2 g1 g2 => R.nd a b _ _ d g1 g2 (fun z => by cases z) (fun z => by cases z) e1 e2
  have fre : ∀ {y : Str}, Vis scope y → scope.names.lookup y = some .free := fun {y} v => by
    rcases v with v | v | v
    · exact absurd rfl (L.own _ (PySem.mem_of_lookup v)).1
    · exact absurd rfl (L.own _ (PySem.mem_of_lookup v)).2
    · exact v
  have sl : ∀ {j : Nat} {n : Str} {a : Nat}, N[j]? = some n → Vis scope n → lookN j caps = some a → ∃ d x, cl.lookup n = some d ∧ ρ[a]? = some d ∧ h.get a = some (.cell (some x)) ∧ a ∈ own ∧ ∃ y, (capSt T K ρ h (untH ρ own H) s.heap cl N)[j]? = some (some y) ∧ VR T K ρ (untH ρ own H) x y := fun {j n a} hj hv hl => by
    obtain ⟨d, hd⟩ := has _ (PySem.mem_of_lookup (fre hv)) rfl
    have hd : cl.lookup n = some d := hd
    obtain ⟨j', b, x, oc, u, y, q1, q2, q3, q4, q5, q6, q7, q8, q9⟩ := C.at_ n d hd
    have ej : j' = j := nodup_ix nd q1 hj
    subst ej
    rw [hl] at q2
    cases q2
    have cv : CapV T K ρ h (untH ρ own H) s.heap cl n y := ⟨d, u, a, x, hd, ⟨oc, q6, q7⟩, q8, q3, q4, q9.mono (List.prefix_refl _) tp⟩
    obtain ⟨y', hy'⟩ := capSt_has (N := N) hj cv
    obtain ⟨d2, u2, b2, x2, k1, _, _, k4, k5, k6⟩ := capSt_at hj hy'
    rw [hd] at k1
    cases k1
    have eb := same q3 k4 q4 k5
    subst eb
    rw [q4] at k5
    cases k5
    exact ⟨d, x, hd, q3, q4, (ho a).mpr ⟨n, j', d, hd, hj, hl, q3⟩, y', hy', k6⟩
  refine ⟨fun j n hj hv => ?_, capSt_len, fun a ha b hb d e1 e2 => ?_, fun a ha => ?_⟩
  · cases q : (putCaps caps (List.replicate ns .n))[j]? with
    | none => exact True.intro
    | some z =>
      rcases putCaps_get hg q with ⟨a, e1, e2⟩ | e1
      · subst e1
        obtain ⟨d, x, k1, k2, k3, k4, y, k5, k6⟩ := sl hj hv e2
        exact ⟨k4, .inr (fre hv), d, some x, k1, k2, k3, fun x' hx => by cases hx; exact ⟨y, k5, k6⟩⟩
      · rw [List.getElem?_replicate] at e1
        split at e1
        · cases e1; exact True.intro
        · cases e1
  · obtain ⟨_, _, d1, x1, _, _, _, _, _, _, g4, g5, _⟩ := cap_at C nd ((ho a).mp ha)
    obtain ⟨_, _, d2, x2, _, _, _, _, _, _, g4', g5', _⟩ := cap_at C nd ((ho b).mp hb)
    exact same e1 e2 g5 g5'
  · obtain ⟨n, j, d, x, oc, u, y, k1, k2, k3, k4, k5, k6, k7, k8, k9, k10⟩ := cap_at C nd ((ho a).mp ha)
    have nb : base.get? d = none := by
      cases hz : base.get? d with
      | none => rfl
      | some o =>
        have := (e0.bs d o hz).2
        rw [k6] at this
        cases this
    have nf : d ∉ frs outer := fun z => by
      have := e0.frf d z
      rw [k6] at this
      cases this
    have un : untH ρ own H d = none := unt_at ⟨a, ha, k4⟩
    refine ⟨d, some x, k4, nb, fun z => ?_, k5, .inr ⟨un, nf, fun z => (nomatch (show d ∈ ([] : List Addr) from z)), oc, k7, fun x' hx => ?_⟩⟩
    · rcases hX d z with z | z
      · have := Heap.lt_size k7
        rw [z] at this
        exact Nat.lt_irrefl _ this
      · exact nf z
    · cases hx
      exact ⟨u, y, k8, k9, k10.mono (List.prefix_refl _) tp⟩
end
end Py

/-! A lambda is called: the way back. -/
set_option Elab.async false
set_option linter.all false
set_option maxRecDepth 100000
noncomputable section
namespace Py
open PySem PySem.Spec PyProof.Rows L2
section
variable {T : Tb} {tl : List (Addr × Str)} {P : Program} {w : World} {K : PySem.W.Frag} {base : Heap} {H H' : Hp} {cl : List (Str × Addr)} {N : List Str} {ρ ρ1 : List Addr} {h h1 : OHeap} {caps : List (Nat × Nat)} {own : List Nat} {g g1 : Heap} {fs fs1 : List Addr}
theorem cap_st (C : CapR T K ρ h H g N cl caps) (nd : N.Nodup) (ho : ∀ a, a ∈ own ↔ IsCap ρ N cl caps a) {b : Addr} {o : HO} (e : H b = some o) (n : ∀ oc, o ≠ .frz oc (.own 0)) : untH ρ own H b = some o := by
  rw [unt_ne]
  · exact e
  · rintro ⟨a, ha, ea⟩
    obtain ⟨_, _, c', _, oc, _, _, _, _, _, k4, _, k6, _⟩ := cap_at C nd ((ho a).mp ha)
    rw [ea] at k4
    cases k4
    rw [e] at k6
    exact n oc (Option.some.inj k6)
theorem cap_back (C : CapR T K ρ h H g N cl caps) (nd : N.Nodup) (R : HR T K tl [] ρ h H) (ho : ∀ a, a ∈ own ↔ IsCap ρ N cl caps a) (hf : ∀ b ∈ fs, H b = none) (u : Un fs [] (untH ρ own H) H' g g1) (e : Ext K [] ρ h (untH ρ own H) ρ1 h1 H') (R1 : HR T K tl own ρ1 h1 H') (S : CelS T K own ρ1 h1 H' base fs1 g1) :
    HR T K tl [] ρ1 h1 (trkH g1 ρ1 own H') ∧ Ext K [] ρ h H ρ1 h1 (trkH g1 ρ1 own H') ∧ Ext K [] ρ1 h1 H' ρ1 h1 (trkH g1 ρ1 own H') ∧ Un fs [] H (trkH g1 ρ1 own H') g g1 := by
  obtain ⟨R2, x2⟩ := S.track R1
  have tp := (cap_hr C nd R ho).2
  have no : ∀ {b : Addr}, H b = none → untH ρ own H b = none := fun {b} n => by
    by_cases c : isC ρ own b
    · exact unt_at c
    · rw [unt_ne c]; exact n
  have back : ∀ {b : Addr}, isC ρ1 own b → isC ρ own b := fun {b} ⟨a, ha, ea⟩ => by
    obtain ⟨_, _, c', _, _, _, _, _, _, _, k4, _⟩ := cap_at C nd ((ho a).mp ha)
    have := pre_get e.pre k4
    rw [ea] at this
    cases this
    exact ⟨a, ha, k4⟩
  have cell : ∀ {b : Addr}, isC ρ own b → ∃ oc, H b = some (.frz oc (.own 0)) ∧ g.get? b = some oc ∧ isC ρ1 own b := fun {b} ⟨a, ha, ea⟩ => by
    obtain ⟨_, _, c', _, oc, _, _, _, _, _, k4, _, k6, k7, _⟩ := cap_at C nd ((ho a).mp ha)
    rw [ea] at k4
    cases k4
    exact ⟨oc, k6, k7, a, ha, pre_get e.pre ea⟩
  refine ⟨R2, ⟨e.pre, fun q vs z => x2.tup _ _ (e.tup _ _ (tp q vs z)), e.fix⟩, x2, ⟨fun b o q n => u.keep b o q (no n), fun b o q n => u.slot b o q (no n), fun b o q n hx => ?_, u.there, fun b xs q => S.sub (u.tups b xs (cap_st C nd ho q fun _ z => by cases z)), fun b o v q => ?_, fun b ps q => ?_⟩⟩
  · rw [trk_ne fun z => ?_]
    · exact u.free b o q (no n) hx
    · obtain ⟨oc, k, _⟩ := cell (back z)
      rw [n] at k
      cases k
  · by_cases c : isC ρ own b
    · obtain ⟨oc, k1, k2, k3⟩ := cell c
      rw [q] at k1
      cases k1
      have nf : b ∉ fs := fun z => by
        have := hf b z
        rw [q] at this
        cases this
      exact trk_at k3 (u.keep b _ k2 (unt_at c) nf (by simp))
    · exact S.sub (u.frzs b o v (by rw [unt_ne c]; exact q))
  · obtain ⟨more, z⟩ := u.tbls b ps (cap_st C nd ho q fun _ z => by cases z)
    exact ⟨more, S.sub z⟩
end
end Py

/-! A lambda is called: an exception on the way back. -/
set_option Elab.async false
set_option linter.all false
set_option maxRecDepth 100000
noncomputable section
namespace Py
open PySem PySem.Spec PyProof.Rows L2
section
variable {T : Tb} {tl : List (Addr × Str)} {P : Program} {w : World} {K : PySem.W.Frag} {base : Heap} {H H' : Hp} {cl : List (Str × Addr)} {N : List Str} {ρ ρ1 : List Addr} {h h1 : OHeap} {caps : List (Nat × Nat)} {own : List Nat} {g B g1 : Heap} {fs : List Addr}
/-- the captured cells, where the body ends -/
theorem cap_cel (C : CapR T K ρ h H g N cl caps) (nd : N.Nodup) (R : HR T K tl [] ρ h H) (ho : ∀ a, a ∈ own ↔ IsCap ρ N cl caps a) (hb : ∀ b o, base.get? b = some o → H b = none) (hf : ∀ b ∈ fs, H b = none)
    (keep : ∀ b o, g.get? b = some o → untH ρ own H b = none → b ∉ fs → B.get? b = some o) (free : ∀ b o, g.get? b = some o → untH ρ own H b = none → H' b = none) (e : Ext K [] ρ h (untH ρ own H) ρ1 h1 H') : CelS T K own ρ1 h1 H' base fs B := by
  have tp := (cap_hr C nd R ho).2
  have wh : ∀ a ∈ own, ∃ d x oc u y, ρ[a]? = some d ∧ h.get a = some (.cell (some x)) ∧ H d = some (.frz oc (.own 0)) ∧ g.get? d = some oc ∧ oc.data = .cell (some u) ∧ RelV y u ∧ VR T K ρ H x y := fun a ha => by
    obtain ⟨_, _, d, x, oc, u, y, _, _, _, k⟩ := cap_at C nd ((ho a).mp ha)
    exact ⟨d, x, oc, u, y, k⟩
  refine ⟨fun a ha b hb d e1 e2 => ?_, fun a ha => ?_⟩
  · obtain ⟨d1, x1, _, _, _, k1, k2, _⟩ := wh a ha
    obtain ⟨d2, x2, _, _, _, q1, q2, _⟩ := wh b hb
    have z1 := pre_get e.pre k1
    have z2 := pre_get e.pre q1
    rw [e1] at z1
    rw [e2] at z2
    cases z1
    cases z2
    exact R.nd a b _ _ d k2 q2 (fun z => by cases z) (fun z => by cases z) k1 q1
  · obtain ⟨d, x, oc, u, y, k1, k2, k3, k4, k5, k6, k7⟩ := wh a ha
    have un : untH ρ own H d = none := unt_at ⟨a, ha, k1⟩
    have nf : d ∉ fs := fun z => by
      have := hf d z
      rw [k3] at this
      cases this
    have nb : base.get? d = none := by
      cases hz : base.get? d with
      | none => rfl
      | some o =>
        have := hb d o hz
        rw [k3] at this
        cases this
    exact ⟨d, some x, oc, pre_get e.pre k1, nb, nf, e.fix a _ (by simp) k2 rfl, free d oc k4 un, keep d oc k4 un nf, fun x' hx => by cases hx; exact ⟨u, y, k5, k6, (k7.mono (List.prefix_refl _) tp).ext e⟩⟩
theorem cap_ub (C : CapR T K ρ h H g N cl caps) (nd : N.Nodup) (ho : ∀ a, a ∈ own ↔ IsCap ρ N cl caps a) (hf : ∀ b ∈ fs, H b = none) (u : UB fs (untH ρ own H) H' g B g1) (e : Ext K [] ρ h (untH ρ own H) ρ1 h1 H') (S : CelS T K own ρ1 h1 H' base fs B) : UB fs H (trkH B ρ1 own H') g B g1 := by
  have no : ∀ {b : Addr}, H b = none → untH ρ own H b = none := fun {b} n => by
    by_cases c : isC ρ own b
    · exact unt_at c
    · rw [unt_ne c]; exact n
  have back : ∀ {b : Addr}, isC ρ1 own b → isC ρ own b := fun {b} ⟨a, ha, ea⟩ => by
    obtain ⟨_, _, c', _, _, _, _, _, _, _, k4, _⟩ := cap_at C nd ((ho a).mp ha)
    have := pre_get e.pre k4
    rw [ea] at this
    cases this
    exact ⟨a, ha, k4⟩
  have cell : ∀ {b : Addr}, isC ρ own b → ∃ oc, H b = some (.frz oc (.own 0)) ∧ g.get? b = some oc ∧ isC ρ1 own b := fun {b} ⟨a, ha, ea⟩ => by
    obtain ⟨_, _, c', _, oc, _, _, _, _, _, k4, _, k6, k7, _⟩ := cap_at C nd ((ho a).mp ha)
    rw [ea] at k4
    cases k4
    exact ⟨oc, k6, k7, a, ha, pre_get e.pre ea⟩
  refine ⟨fun b o q n => u.keep b o q (no n), u.slot, fun b o q n => ?_, u.there, fun b xs q => S.sub (u.tups b xs (cap_st C nd ho q fun _ z => by cases z)), fun b o v q => ?_, fun b ps q => ?_⟩
  · rw [trk_ne fun z => ?_]
    · exact u.free b o q (no n)
    · obtain ⟨oc, k, _⟩ := cell (back z)
      rw [n] at k
      cases k
  · by_cases c : isC ρ own b
    · obtain ⟨oc, k1, k2, k3⟩ := cell c
      rw [q] at k1
      cases k1
      have nf : b ∉ fs := fun z => by
        have := hf b z
        rw [q] at this
        cases this
      exact trk_at k3 (u.keep b _ k2 (unt_at c) nf)
    · exact S.sub (u.frzs b o v (by rw [unt_ne c]; exact q))
  · obtain ⟨more, z⟩ := u.tbls b ps (cap_st C nd ho q fun _ z => by cases z)
    exact ⟨more, S.sub z⟩
end
end Py

/-! A lambda is called. -/
set_option Elab.async false
set_option linter.all false
set_option maxRecDepth 100000
noncomputable section
namespace Py
open PySem PySem.Spec PyProof.Rows L2
def lamC (Pg : Prog) (C : CallH) (e : IE) (ns : Nat) (caps : List (Nat × Nat)) (h : OHeap) : Py.R PV := match capsGood h caps with
  | true => (evalE Pg C e (putCaps caps (List.replicate ns .n)) h).bind fun v h => (match clean v with
    | true => .ok v h
    | false => .no)
  | false => .no
section
variable {T : Tb} {tl : List (Addr × Str)} {P : Program} {w : World} {K : PySem.W.Frag} {mg : Str → Option Value} {base : Heap}
theorem run_lam {k : Nat} {C : CallH} {e : IE} {ns d : Nat} (fx : Fx T K mg) (hL : ∀ L, T.lt d L → LamO L.scope ∧ L.N.Nodup ∧ (∀ qual cl pm c ct, bindArgs (PySem.W.kla_fn "<lambda>" qual L.params L.body L.scope cl pm (.ref c) ct) ⟨[], []⟩ = pure []) ∧
    ∀ (X : Cx) (W : WX) (own : List Nat) (fr : Py.Frame), X.prog = P → X.w = w → X.K = K → X.mg = mg → X.base = base → CxOk T tl k X W L.N L.scope true false false → PE X L.body (tE T X tl own W fr (evalE T.P C e fr)))
    {A : Around} {outer : List Env} {s : Shared} {H : Hp} {ρ : List Addr} {h : OHeap} {Q : VK} {E : XK} {a : Nat} {caps : List (Nat × Nat)} {p : Addr} (hr : Room (k + 1) A) (hgd : A.guards = some []) (e0 : Env0 P w K mg base A outer s H) (R : HR T K tl [] ρ h H) (ha : h.get a = some (.clo d caps)) (hp : ρ[a]? = some p)
    (q : RunC T K tl Q E (lamC T.P C e ns caps h) ρ h H) : codeAny (model P w) A (.call (.ref p) ⟨[], []⟩) (L2.CR (L2.CX P w) outer P w H s Q E) s := by
  obtain ⟨fo, hfo, L, cl, pm, c, ct, hL', rfl, hc, hcl, hasf⟩ := R.atp ha hp
  obtain ⟨LO, nd, hbind, hbody⟩ := hL L hL'
  obtain ⟨hgo, _⟩ := e0.hok p _ hfo
  obtain ⟨⟨oc, vs, t, hoc, hdc, hvc⟩, _, _⟩ := e0.hok c _ hc
  unfold lamC at q
  split at q
  case h_2 => exact q.elim
  rename_i hg
  have CR_ := capR (own := []) R e0.hok hg hcl
  obtain ⟨own, ho⟩ := cap_own CR_
  have em := cap_env0 CR_ nd ho e0
  obtain ⟨Rm, tp⟩ := cap_hr CR_ nd R ho
  have lim : s.heap.NoLimit := e0.mod.nolimit.keeps fun b o z => (e0.bs b o z).1
  refine PySem.W.kla_callFunE hr.depth hgo rfl LO.co LO.gen rfl ⟨c, oc, vs, t, rfl, hoc, hdc, hvc⟩ ?_
  rw [hbind]
  refine wpAny_pure (wpAny_newFunctionEnv (fun y hy => (LO.own y hy).2) (fun y hy => absurd hy (by simp)) (fun h₁ hns hsb => ⟨lim.fresh _ hsb, ?_⟩) LO.kind)
  have kp : ∀ b o, s.heap.get? b = some o → h₁.get? b = some o := fun b o e => hsb.extBut b o (Nat.ne_of_lt (Heap.lt_size e)) (Heap.get?_push_of_some _ e)
  generalize hev : evalE T.P C e (putCaps caps (List.replicate ns .n)) h = res at q
  obtain ⟨EX, hEX⟩ : ∃ EX : XK, EX = fun cls dd H' => ∃ e1 h1 ρ1 p1 c1 fs, res = .ex e1 h1 ∧ cls = .ref (cAdr T K c1) ∧ dd = some p1 ∧ Ext K [] ρ h (untH ρ own H) ρ1 h1 H' ∧ HR T K tl own ρ1 h1 H' ∧ h1.get e1 = some (.exc c1 fs) ∧ ρ1[e1]? = some p1 := ⟨_, rfl⟩
  have hfrs : ∀ b ∈ frs (lamX P w K mg base A outer s (untH ρ own H) EX L.qual L.scope p c cl L.N).stack, b = s.heap.objs.size ∨ b ∈ frs outer := fun b hb => List.mem_cons.mp hb
  have Ev := cap_env (E := EX) (nm := L.qual) (p := p) (c := c) CR_ nd R ho e0 hg LO hasf (ns := ns) hfrs
  have J : Inv (lamX P w K mg base A outer s (untH ρ own H) EX L.qual L.scope p c cl L.N) [] (capSt T K ρ h (untH ρ own H) s.heap cl L.N) (untH ρ own H) { s with heap := h₁, toks := s.toks + ([] : List (Str × Value)).length } :=
    lamX_start em hr.hd LO (fun y d e => by
      obtain ⟨j, b, x, od, u, z, q1, q2, q3, q4, q5, q6, q7, _⟩ := CR_.at_ y d e
      exact ⟨unt_at ⟨b, (ho b).mpr ⟨y, j, d, e, q1, q2, q3⟩, q3⟩, u, od, q6, q7⟩) CR_.inj hasf hns kp capSt_len (fun i y v e1 e2 e3 => by
      obtain ⟨d, u, _, _, k1, k2, k3, _⟩ := capSt_at e1 e2
      exact ⟨d, u, k1, k2, k3⟩)
  have hr' : Room k (A.deeper (lamV L.qual L.scope s.heap.objs.size p c cl)) := hr.deeper _
  have CO : CxOk T tl k (lamX P w K mg base A outer s (untH ρ own H) EX L.qual L.scope p c cl L.N) (fun cls dd _ H' => EX cls dd H') L.N L.scope true false false := by
    refine ⟨rfl, rfl, ⟨nd, CR_.inj⟩, rfl, fx, ?_, hgd, fun _ => hr', fun _ => takes_of rfl rfl rfl rfl, fun _ => passes_of rfl, fun z => (by cases z), fun z => (by cases z), fun z => (by cases z)⟩
    have := hr'.un
    show (A.deeper (lamV L.qual L.scope s.heap.objs.size p c cl)).units + 66 < cLine
    omega
  have body := (hbody _ _ own (putCaps caps (List.replicate ns .n)) rfl rfl rfl rfl rfl CO).run [] _ _ _ (fun y H' => ∃ v h1 ρ1, res = .ok v h1 ∧ Ext K [] ρ h (untH ρ own H) ρ1 h1 H' ∧ HR T K tl own ρ1 h1 H' ∧ VT T (lamX P w K mg base A outer s (untH ρ own H) EX L.qual L.scope p c cl L.N) ρ1 h1 H' v y) J ⟨ρ, h, Rm, Ev, by
    rw [hev]
    cases res with
    | ok v h1 => exact fun ρ1 H1 a b y r => ⟨v, h1, ρ1, rfl, a, b, r⟩
    | ex e1 h1 =>
      intro ρ1 H1 p1 c1 fs a b hg1 hp1
      rw [hEX]
      exact ⟨e1, h1, ρ1, p1, c1, fs, rfl, rfl, rfl, a, b, hg1, hp1⟩
    | no => exact q.elim⟩
  refine PySem.W.kla_codeExpr (wpAny_mono body (fun u s' z => ?_) fun e' s' z => ?_)
  · obtain ⟨y, H', J', ru, v, h1, ρ1, er, e1, R1, rv⟩ := z
    subst er
    have u1 : Un (frs outer) [] (untH ρ own H) H' s.heap s'.heap := J'.base
    have S : CelS T K own ρ1 h1 H' base (frs outer) s'.heap := cap_cel CR_ nd R ho (fun b o z => (e0.bs b o z).2) e0.frf (fun b o z n nf => u1.keep b o z n nf (by simp)) (fun b o z n => u1.free b o z n (by simp)) e1
    obtain ⟨R2, x2, x3, u2⟩ := cap_back CR_ nd R ho e0.frf u1 e1 R1 S
    have q : RunC T K tl Q E (match clean v with
      | true => .ok v h1
      | false => .no) ρ h H := q
    split at q
    · rename_i hcl
      exact ⟨y, _, J'.os, J'.bare, u2, S.hok J'.hok, ru, q ρ1 _ y x2 R2 ((rv.cl hcl).ext x3)⟩
    · exact q.elim
  · have hx : ∀ e' t, L2.CX P w outer (untH ρ own H) s EX e' t → L2.CX P w outer H s E e' t := fun e' t ⟨ae, B, H', cls, dd, ea, fl, hok, ub, na, os, ag, hE⟩ => by
      rw [hEX] at hE
      obtain ⟨e1, h1, ρ1, p1, c1, fs, er, e2, e3, x1, R1, hg1, hp1⟩ := hE
      subst er e2 e3
      have S : CelS T K own ρ1 h1 H' base (frs outer) B := cap_cel CR_ nd R ho (fun b o z => (e0.bs b o z).2) e0.frf ub.keep ub.free x1
      have ub2 := cap_ub CR_ nd ho e0.frf ub x1 S
      obtain ⟨R2, x3⟩ := S.track R1
      have na2 : trkH B ρ1 own H' ae = none := by
        by_cases z : isC ρ1 own ae
        · exfalso
          obtain ⟨oc', k, _⟩ := S.obj z
          rw [fl.2.1] at k
          cases k
        · rw [trk_ne z]; exact na
      exact ⟨ae, B, _, _, _, ea, fl, S.hok hok, ub2, na2, os, ag, q ρ1 _ p1 c1 fs ⟨x1.pre, fun b vs z => x3.tup _ _ (x1.tup _ _ (tp b vs z)), x1.fix⟩ R2 hg1 hp1⟩
    exact wpAny_mono z (fun _ t z => hx _ t z) fun e' t z => hx e' t z
end
end Py

/-! raise X(..), X an own exception. -/
set_option Elab.async false
set_option linter.all false
set_option maxRecDepth 100000
set_option maxHeartbeats 1000000
noncomputable section
namespace Py
open PySem PySem.Spec PyProof.Rows L2
section
variable {T : Tb} {X : Cx} {tl : List (Addr × Str)} {own : List Nat} {W : WX} {σ : L2.St} {ρ ρ' : List Addr} {h h' : OHeap} {H H' : Hp} {fr : Py.Frame} {K : PySem.W.Frag} {pins : List (Addr × Obj)} {s : Shared} {D : Ends2} {C : Addr}
theorem exc_mk {fs : List Str} {k : Nat} {us : List Value} {vs : List V} {Q : XK} (T : XIni X.prog X.K X.mg C fs) (hr : Room (k + 1) X.A) (I : Inv X pins σ H s) (r : Vals vs us) (hl : vs.length = fs.length) (q : ∀ d, H d = none → Q (.ref C) (some d) (upd H d (.xd (excL fs vs [])))) :
    wpAny (model X.prog X.w) X.A (call (.ref C) us) (MkP X pins σ Q) X.xe s := by
  obtain ⟨f, cda, cc, scope, oc, od, osl, name, qual, args, kwd, dfl, st0, st1, sts, kV, doc, pm, ct, an, fps, p0, p1, apos, p2, cpos, epos, msg, j, hf, hty, hK, hcd, F, _, _, _, _, _, _, _, _, _, _, h100, _⟩ := id T.ini
  obtain ⟨nm, qn, N, bs, bm, sn, sub, ab, col, dd, k0, k1, k2, k3, k5, hC, hbm⟩ := F.ex.cls
  obtain ⟨hp, g, dr, tk, os⟩ := s
  have hgt : ((hp.push (PySem.W.kdv_tup us)).push (PySem.HandSPX.excO C hp.objs.size)).get? (hp.objs.size + 1) = some (PySem.HandSPX.excO C hp.objs.size) := by heap_get
  have kk : ∀ b o, hp.get? b = some o → ((hp.push (PySem.W.kdv_tup us)).push (PySem.HandSPX.excO C hp.objs.size)).get? b = some o := fun b o e => Heap.get?_push_of_some _ (Heap.get?_push_of_some _ e)
  have hbe : X.base.get? (hp.objs.size + 1) = none := Heap.get?_none_of_le (Nat.le_succ_of_le (Nat.le_trans I.ok.bsz I.sz))
  have hz : us.length ≤ sizeLine := by
    rw [← r.length, sizeLine_eq]
    omega
  refine wpAny_call (PySem.HandSPX.call_own PySem.F.excBase_ValueError (fun Y => PySem.HandSPX.refsVE_contains Y bm hbm) (I.kIn _ _ hC) (PySem.W.looks_findIn I.kIn hf) (fun x => PySem.W.bind_fn I.kIn x hty) hz ?_)
  refine init_code (base := X.base) (vs := vs) T I.ok.mod (fun b o e => kk b o (I.bk b o e)) hbe (hr.make C us []).depth hgt r hl hf (fun h1 t1 tk1 dx mA k1 e1 zd nd hns rel => ?_)
  have sz : hp.objs.size + 2 ≤ dx := by
    have z := zd
    show _ ≤ _
    simpa [Heap.size_push] using z
  have hsz : hp.objs.size ≤ dx := by omega
  obtain ⟨G, g1, g2⟩ := restrict h1 fun b => decide (b ≠ hp.objs.size + 1)
  have gk : ∀ b, b ≠ hp.objs.size + 1 → G.get? b = h1.get? b := fun b hb => g1 b (decide_eq_true hb)
  have ge : G.get? (hp.objs.size + 1) = none := g2 _ (by simp)
  have kG : ∀ b o, hp.get? b = some o → G.get? b = some o := fun b o z => by
    have hb : b ≠ hp.objs.size + 1 := Nat.ne_of_lt (Nat.lt_succ_of_lt (Heap.lt_size z))
    rw [gk b hb]
    exact k1 b o hb (kk b o z)
  have hd : H dx = none := I.hok.fresh hsz
  have J : Inv X pins σ (upd H dx (.xd (excL fs vs []))) ⟨G, g, dr, tk1, os⟩ := I.laid (t' := tk1) (a := dx) kG hsz ⟨mA, hns.at fun o y => (gk dx nd).trans y, rel⟩
  refine ⟨rfl, hp.objs.size + 1, _, _, ⟨G, g, dr, tk1, os⟩, _, .ref C, some dx, rfl, J, fun b o z => ?_, ge, e1, ⟨rfl, rfl⟩, rfl, rfl, ?_, rfl, I.bare, raises_own F.ex.exC F.ex.tyC, q dx hd⟩
  · by_cases hb : b = hp.objs.size + 1
    · rw [hb, ge] at z
      cases z
    · exact (gk b hb).symm.trans z
  · rw [upd_ne (Ne.symm nd)]
    exact I.hok.fresh (Nat.le_succ _)
end
end Py

/-! The statement raise X(..). -/
set_option Elab.async false
set_option linter.all false
set_option maxRecDepth 100000
set_option maxHeartbeats 1000000
noncomputable section
namespace Py
open PySem PySem.Spec PyProof.Rows L2
def raiseS (Pg : Prog) (g : Nat) (fas : FEs) : FS := fun fr h => (fas fr h).toS fr fun xs h => (match Pg.globs.get g with
    | some (.cls c) => (match excMake Pg c xs h with
      | some h' => .ex h.n fr h'
      | none => .no)
    | _ => .no)
section
variable {T : Tb} {X : Cx} {tl : List (Addr × Str)} {own : List Nat} {W : WX} {σ : L2.St} {ρ ρ' : List Addr} {h h' : OHeap} {H H' : Hp} {fr : Py.Frame} {K : PySem.W.Frag} {pins : List (Addr × Obj)} {s : Shared} {D : Ends2} {C : CallH}
theorem toSA {eas : OHeap → Py.R (List PV)} {k : List PV → OHeap → RS} (R : HR T X.K tl own ρ h H) (Ev : EnvR T X own ρ h H fr σ) (q : RunS T X tl own W D ((eas h).toS fr k) ρ h H)
    {Q : List V → Hp → Prop} (f : ∀ x ρ' h' H' v, Ext X.K [] ρ h H ρ' h' H' → HR T X.K tl own ρ' h' H' → EnvR T X own ρ' h' H' fr σ → VRs T X.K ρ' H' x v → RunS T X tl own W D (k x h') ρ' h' H' → Q v H') : tAs T X tl own W fr eas σ H Q := by
  refine ⟨ρ, h, R, Ev, ?_⟩
  cases e : eas h with
  | ok x h1 =>
    rw [e] at q
    intro ρ1 H1 e1 R1 v rv
    have q : RunS T X tl own W D (k x h1) ρ h H := q
    exact f x ρ1 h1 H1 v e1 R1 (Ev.ext e1) rv (q.at e1.e)
  | ex x h1 =>
    rw [e] at q
    intro ρ1 H1 p c fs e1 R1 hg hr
    exact q ρ1 H1 σ p c fs e1.e R1 (Ev.ext e1) hg hr
  | no => rw [e] at q; exact q
theorem exc_fr : ∀ {fs : List Nat} {ns : List Str} {xs : List PV} {vs : List V} {acc : List (Nat × PV)} {acc' : List (Str × V)}, namesB T.an fs ns = true → VRs T K ρ H xs vs → FR T K ρ H acc acc' → FR T K ρ H (excF fs xs acc) (excL ns vs acc')
  | [], [], xs, vs, acc, acc', _, _, r => by
    unfold excF excL
    exact r
  | [], _ :: _, _, _, _, _, n, _, _ => nomatch n
  | _ :: _, [], _, _, _, _, n, _, _ => nomatch n
  | f :: fs, n :: ns, [], vs, acc, acc', _, rv, r => by
    cases (show vs = [] from rv)
    exact r
  | f :: fs, n :: ns, x :: xs, vs, acc, acc', hn, rv, r => by
    obtain ⟨v, vs', rfl, r1, r2⟩ := rv
    unfold namesB at hn
    rw [Bool.and_eq_true] at hn
    exact exc_fr (fs := fs) (ns := ns) hn.2 r2 ⟨n, v, acc', rfl, of_decide_eq_true hn.1, r1, r⟩
theorem names_len : ∀ {an : List Str} {fs : List Nat} {ns : List Str}, namesB an fs ns = true → fs.length = ns.length
  | _, [], [], _ => rfl
  | _, [], _ :: _, h => nomatch h
  | _, _ :: _, [], h => nomatch h
  | an, f :: fs, n :: ns, h => by
    unfold namesB at h
    rw [Bool.and_eq_true] at h
    rw [List.length_cons, List.length_cons, names_len h.2]
theorem XIni.keep {P : Program} {K : PySem.W.Frag} {mg : Str → Option Value} {C : Addr} {fs : List Str} (T : XIni P K mg C fs) : PySem.W.keepIn K (.ref C) = true := by
  obtain ⟨f, cda, cc, scope, oc, od, osl, name, qual, args, kwd, dfl, st0, st1, sts, kV, doc, pm, ct, an, fps, p0, p1, apos, p2, cpos, epos, msg, j, hf, hty, hK, hcd, F, _⟩ := T.ini
  exact F.ex.kC
theorem ss_raise {k g : Nat} {x : Str} {a : PySem.Expr} {es : List PySem.Expr} {fas : FEs} {p cpos pos : Pos} (F : Fx T X.K X.mg) (CO : CallsOk T X.K tl X.prog X.w X.mg X.base C k) (hr : Room (k + 1) X.A) (tk : Takes X W) (hc : X.calm = true) (hx : T.gn[g]? = some x) (hg : Gl X x) (hd : (x == ("__debug__" : Str)) = false)
    (hcl : ∃ c Kc f fs, T.P.globs.get g = some (.cls c) ∧ T.P.clss.get c = some Kc ∧ Kc.exc = some (f :: fs)) (ha : ∀ fr, PA X (a :: es) (tAs T X tl own W fr (fas fr))) (hs : noStar a = true) (hss : es.all noStar = true) : QS X (.Raise (some (.Call (.Name x p) (a :: es) [] cpos)) none pos) (tS T X tl own W (raiseS T.P g fas)) := by
  refine qs_of (ps_raise (t := fun σ H Q => ∃ fr, tAs T X tl own W fr (fas fr) σ H fun vs H1 => ∃ c ns, T.P.globs.get g = some (.cls c) ∧ XIni X.prog X.K X.mg (cAdr T X.K c) ns ∧ vs.length = ns.length ∧ ∀ d, H1 d = none → Q (.ref (cAdr T X.K c)) (some d) (upd H1 d (.xd (excL ns vs [])))) hc tk ?_) ?_
  · intro pins s σ H Q I ⟨fr, h⟩
    obtain ⟨c, Kc, f, fs, hcg, hKc, hfs⟩ := hcl
    obtain ⟨x', hx', hcn, hm⟩ := F.cls g c hcg
    rw [hx] at hx'
    cases hx'
    obtain ⟨_, _, XI⟩ := CO.rx c Kc f fs hKc hfs
    rw [cAdr_of hcn] at XI
    refine wpAny_Call_Name_kw (ld_glob I hg hm ?_ hd)
    refine PySem.W.callWith_K (h₀ := X.base) I.ok.mod.kin XI.keep (thn ((ha fr).run cpos pins s σ H _ I h) fun us s1 ⟨vs, H1, I1, r1, c', ns, hcg', XI', hl, q⟩ => ⟨I1.kIn, ?_⟩) (star_cons hs) (star_plain hss)
    rw [hcg] at hcg'
    cases hcg'
    rw [cAdr_of hcn] at XI' q
    exact exc_mk XI' hr I1 r1 hl q
  · intro D σ H ⟨ρ, h, fr, R, Ev, q⟩
    refine ⟨fr, toSA R Ev q fun xs ρ1 h1 H1 vs e1 R1 Ev1 rv q1 => ?_⟩
    split at q1
    · rename_i c hcg
      unfold excMake at q1
      split at q1
      · rename_i h2 he
        split at he
        · rename_i Kc hKc
          split at he
          · rename_i f fs hfs
            split at he
            · rename_i hl
              cases he
              obtain ⟨ns, hns, XI⟩ := CO.rx c Kc f fs hKc hfs
              have hlen : vs.length = ns.length := by
                rw [← rv.length, ← names_len hns, ← Nat.eq_of_beq_eq_true hl, List.length_cons]
              refine ⟨c, ns, hcg, XI, hlen, fun d hd1 => ?_⟩
              have w : Wr (H1 d) := by rw [hd1]; exact True.intro
              have e2 : Ext X.K [] ρ1 h1 H1 (ρ1 ++ [d]) (h1.push (.exc c (excF (f :: fs) xs []))) (upd H1 d (.xd (excL ns vs []))) := Ext.push hd1
              have nw : OR T X.K (ρ1 ++ [d]) (upd H1 d (.xd (excL ns vs []))) own h1.n d (.exc c (excF (f :: fs) xs [])) := ⟨_, upd_same, exc_fr hns (rv.ext e2) rfl⟩
              have R2 := R1.push (o := .exc c (excF (f :: fs) xs [])) hd1 (fun z => z) nw
              exact q1 _ _ σ d c _ e2.e R2 (Ev1.ext e2) (by rw [OHeap.get_push, if_pos rfl]) (at_new R1)
            · cases he
          · cases he
        · cases he
      · exact q1.elim
    · exact q1.elim
end
end Py

/-! {.. for .. in d.items() ..}, d an empty dict. -/
set_option Elab.async false
set_option linter.all false
set_option maxRecDepth 100000
noncomputable section
namespace Py
open PySem PySem.Spec PyProof.Rows L2
def dc0E (ea : OHeap → Py.R PV) : OHeap → Py.R PV := fun h => (ea h).bind fun x h => (match x, isEmptyD h x with
    | .obj a, true => .ok (.obj h.n) ((h.set a (.dct [] true)).push (.dct [] false))
    | _, _ => .no)
section
variable {T : Tb} {X : Cx} {tl : List (Addr × Str)} {own : List Nat} {W : WX} {σ : L2.St} {ρ ρ' : List Addr} {h h' : OHeap} {H H' : Hp} {fr : Py.Frame} {K : PySem.W.Frag} {pins : List (Addr × Obj)} {s : Shared}
variable {a kx vx : PySem.Expr} {ea : OHeap → Py.R PV} {elts ifs : List PySem.Expr} {kk : Nat} {tpos apos cpos pos : Pos} {scope : Scope} {ow : List (Str × Nat)}
theorem se_dic0 {P : Prog} {C : CallH} : PE X (.Dict [] [] pos) (tE T X tl own W fr (evalE P C (.dic .nil) fr)) := by
  refine PE.weak pe_dnewK fun σ H Q ⟨ρ, h, R, Ev, q⟩ => ?_
  intro D hD
  have q : Run T X tl own W σ (.ok (.obj h.n) (h.push (.dct [] false))) (fun v ρ' h' H' => ∀ y, VT T X ρ' h' H' v y → Q y H') ρ h H := q
  exact q _ _ (Ext.push hD) (R.push (o := .dct [] false) (u := .dK []) hD (fun z => z) ⟨[], rfl, upd_same⟩) _ (.inl ⟨D, rfl, at_new R⟩)
/-- an empty dict is locked from now on -/
def tLk (t : TE) : TE := fun σ H Q => t σ H fun x H1 => ∃ d, x = .ref d ∧ H1 d = some (.dK []) ∧ ∀ o, Q x (upd H1 d (.frz o (.dK [])))
theorem pe_lk {t : TE} (ha : PE X a t) : PE X a (tLk t) := ⟨fun pins s σ H Q I hw => thn (ha.run pins s σ H _ I hw) fun u s1 ⟨x, H1, I1, r, d, ex, hd, q⟩ => by
  obtain ⟨o, I2⟩ := I1.lock hd True.intro
  exact ⟨x, _, I2, r, q o⟩⟩
abbrev gF : TG := fun _ _ _ _ => False
abbrev tF : TT := fun _ _ _ => False
abbrev eF : TE := fun _ _ _ => False
theorem se_dc0 (hc : X.calm = true) (hN : X.N.Nodup) (ok : BlkOk X.N X.env.scope scope ow) (hb : plainBase a = true) (hline : (apos.endLine == cpos.line) = true) (ha : PE X a (tE T X tl own W fr ea)) :
    PE X (.DictComp kx vx [⟨.Tuple elts kk tpos, .Call (.Attribute a "items" apos) [] [] cpos, ifs, 0⟩] scope pos) (tE T X tl own W fr (dc0E ea)) := by
  refine PE.weak (pe_dc (g := gF) (tt := tF) (tk := eF) (tv := eF) hc hN (pi_items (pe_lk ha) (plainBase_of hb) hline) ok (fun _ _ _ _ _ => ⟨fun _ _ _ _ _ _ _ _ _ z => z.elim⟩) (fun _ _ _ _ _ => ⟨fun _ _ _ _ _ _ z => z.elim⟩) (fun _ _ _ _ _ => ⟨fun _ _ _ _ _ _ z => z.elim⟩) (fun _ _ _ _ _ => ⟨fun _ _ _ _ _ _ z => z.elim⟩)) fun σ H Q ⟨ρ, h, R, Ev, q⟩ => ?_
  refine Run.two R Ev q fun x ρ1 h1 H1 v e1 R1 Ev1 rv q1 => ?_
  split at q1
  · rename_i p he
    have he : (match h1.get p with
      | some (.dct [] false) => true
      | _ => false) = true := he
    split at he
    case h_2 => cases he
    rename_i hget
    obtain ⟨d, rfl, hp⟩ := rv.obj
    obtain ⟨es, ed, re⟩ := R1.dct hget hp
    cases (show es = [] from re)
    refine ⟨d, rfl, ed, fun o => ⟨d, o, [], rfl, upd_same, fun D hD => ?_⟩⟩
    refine ⟨fun i m H2 => i = 0 ∧ H2 = upd (upd H1 d (.frz o (.dK []))) D (.dK []), ⟨0, rfl, rfl⟩, fun i m H2 ⟨hi, hH⟩ => .inl ⟨⟨?_, Nat.zero_le _⟩, ?_⟩⟩
    · rw [hH, upd_ne (ne_of_none upd_same hD)]
      exact upd_same
    · rw [hH]
      have w : Wr (H1 d) := by rw [ed]; exact True.intro
      have R2 := R1.set (o := .dct [] true) (u := .frz o (.dK [])) hget hp (fun z => z) w (fun z => z) (⟨[], rfl, o, upd_same⟩)
      have x2 : Ext X.K [] ρ1 h1 H1 ρ1 (h1.set p (.dct [] true)) (upd H1 d (.frz o (.dK []))) := Ext.set hget rfl w
      have R3 := R2.push (o := .dct [] false) (u := .dK []) hD (fun z => z) ⟨[], rfl, upd_same⟩
      have x3 : Ext X.K [] ρ1 (h1.set p (.dct [] true)) (upd H1 d (.frz o (.dK []))) (ρ1 ++ [D]) ((h1.set p (.dct [] true)).push (.dct [] false)) (upd (upd H1 d (.frz o (.dK []))) D (.dK [])) := Ext.push hD
      exact q1 _ _ (x2.tr x3) R3 _ (.inl ⟨D, rfl, at_new (h := h1.set p (.dct [] true)) R2⟩)
  · exact q1.elim
end
end Py

/-! The checker: an intermediate form against the text. -/
set_option Elab.async false
set_option linter.all false
set_option maxRecDepth 100000
noncomputable section
namespace Py
open PySem PySem.Spec PyProof.Rows L2
/-- what a piece of text stands in: its names by slots, its scope, not within an except suite, a def's own frame, lambdas may be made -/
structure Ck where
  N : List Str
  sc : Scope
  cm : Bool
  fb : Bool
  lb : Bool
/-- what the checker reads of the tables -/
structure Bs where
  P : Prog
  gn : List Str
  an : List Str
  fr : List Str
def Tb.bs (T : Tb) : Bs := ⟨T.P, T.gn, T.an, T.fr⟩
def visB (sc : Scope) (x : Str) : Bool := match sc.names.lookup x with
  | some .local => true
  | some .cell => true
  | some .free => true
  | _ => false
def locXB (ck : Ck) (x : Str) : Bool := match ck.sc.names.lookup x with
  | some .local => true
  | some .cell => ck.fb
  | _ => false
def isLocalB (sc : Scope) (x : Str) : Bool := match sc.names.lookup x with
  | some .local => true
  | _ => false
def glB (sc : Scope) (x : Str) : Bool := match sc.names.lookup x with
  | some .globalImplicit => true
  | _ => false
def atB (l : List Str) (i : Nat) (x : Str) : Bool := match l[i]? with
  | some y => decide (y = x)
  | none => false
def dbgB (x : Str) : Bool := !(x == ("__debug__" : Str))
def cldB (x : Str) : Bool := !(x == ("__classdict__" : Str))
def funB (sc : Scope) : Bool := match sc.kind with
  | .function => true
  | _ => false
/-- a name of the text's top -/
def topB (T : Bs) (ck : Ck) (g : Nat) (x : Str) : Bool := atB T.gn g x && (glB ck.sc x && dbgB x)
/-- a built-in's name -/
def bltB (T : Bs) (ck : Ck) (x : Str) : Bool := T.fr.contains x && glB ck.sc x
def opEqB : Operator → Operator → Bool := fun a b => decide (a = b)
def cmEqB : CmpOp → CmpOp → Bool := fun a b => decide (a = b)
def crB (T : Bs) : CR → Str → Bool
  | .bt n, x => decide (x = (match n with | .non => "" | .bl => "bool" | .int => "int" | .str => "str" | .lst => "list" | .tup => "tuple" | .dct => "dict")) && (decide (n ≠ .non) && T.fr.contains x)
  | .own c, x => ((List.range T.gn.length).any fun g => atB T.gn g x && (match T.P.globs.get g with
    | some (.cls c') => decide (c' = c)
    | _ => false)) && (T.P.clss.get c).isSome
def crsB (T : Bs) (ck : Ck) : List CR → List PySem.Expr → Bool
  | [], [] => true
  | c :: cs, .Name x _ :: es => crB T c x && (glB ck.sc x && (dbgB x && crsB T ck cs es))
  | _, _ => false
def noArgs : Arguments → Bool
  | ⟨[], [], none, [], [], none, []⟩ => true
  | _ => false
/-- a comprehension's own names -/
def owOf (N : List Str) (own : List Nat) : List (Str × Nat) := own.filterMap fun i => (N[i]?).map fun x => (x, i)
def keepB (own : List Nat) : IT → Bool
  | .name i => own.contains i
  | .tup ts => keepsB own ts
  | _ => false
where keepsB (own : List Nat) : ITs → Bool
  | .nil => true
  | .cons t ts => keepB own t && keepsB own ts
/-- the own names of a dict comprehension that takes no turn -/
def dcOw (ck : Ck) (scope : Scope) : List (Str × Nat) := owOf ck.N ((List.range ck.N.length).filter fun i => match ck.N[i]? with
  | some x => (match scope.names.lookup x with
    | some .local => true
    | some .cell => true
    | _ => false)
  | none => false)
def blkB (ck : Ck) (scope : Scope) (own : List Nat) : Bool := blkC ck.N ck.sc scope (owOf ck.N own) && (decide ((owOf ck.N own).map (·.2) = own) && (owOf ck.N own).all fun p => isLocalB (relS scope ck.sc) p.1)
def raisB (P : Prog) (g : Nat) : Bool := match P.globs.get g with
  | some (.cls c) => (match P.clss.get c with
    | some K => (match K.exc with
      | some (_ :: _) => true
      | _ => false)
    | none => false)
  | _ => false
def IEs.len : IEs → Nat
  | .nil => 0
  | .cons _ es => es.len + 1
mutual
def chkE (T : Bs) : Nat → Ck → IE → PySem.Expr → Bool
  | 0, _, _, _ => false
  | f + 1, ck, ir, e => match e with
    | .BoolOp _ [y] _ => chkE T f ck ir y
    | _ => match ir with
    | .unk => true
    | .non => (match e with
      | .Constant .none _ _ => true
      | _ => false)
    | .bl b => (match e with
      | .Constant (.bool b') _ _ => b == b'
      | _ => false)
    | .int i => (match e with
      | .Constant (.int i') _ _ => decide (i = i')
      | _ => false)
    | .str x => (match e with
      | .Constant (.str x') _ _ => decide (x = x')
      | _ => false)
    | .loc i => (match e with
      | .Name x _ => atB ck.N i x && (visB ck.sc x && (dbgB x && cldB x))
      | _ => false)
    | .glo g => (match e with
      | .Name x _ => topB T ck g x
      | _ => false)
    | .bin op a b => (match e with
      | .BinOp x o y _ => opEqB o (opOf op) && (chkE T f ck a x && chkE T f ck b y)
      | _ => false)
    | .neg a => (match e with
      | .UnaryOp .USub x _ => chkE T f ck a x
      | _ => false)
    | .not a => (match e with
      | .UnaryOp .Not x _ => chkE T f ck a x
      | _ => false)
    | .cmp op a b => (match e with
      | .Compare x [o] [y] _ => cmEqB o (copOf op) && (!behindInMarks (copOf op) y && (chkE T f ck a x && chkE T f ck b y))
      | _ => false)
    | .chain o1 o2 a b c => (match e with
      | .Compare x [p1, p2] [y, z] _ => cmEqB p1 (copOf o1) && (cmEqB p2 (copOf o2) && (!lastMarks [copOf o1, copOf o2] [y, z] && (chkE T f ck a x && (chkE T f ck b y && chkE T f ck c z))))
      | _ => false)
    | .and a b => (match e with
      | .BoolOp .And (x :: y :: rest) pos => chkE T f ck a x && chkE T f ck b (.BoolOp .And (y :: rest) pos)
      | _ => false)
    | .or a b => (match e with
      | .BoolOp .Or (x :: y :: rest) pos => chkE T f ck a x && chkE T f ck b (.BoolOp .Or (y :: rest) pos)
      | _ => false)
    | .ite c a b => (match e with
      | .IfExp z x y _ => chkC T f ck c z && (chkE T f ck a x && chkE T f ck b y)
      | _ => false)
    | .tup es => (match e with
      | .Tuple xs _ _ => chkEs T f ck es xs
      | _ => false)
    | .lst es => (match e with
      | .List xs _ => chkEs T f ck es xs
      | _ => false)
    | .dic ks => (match ks, e with
      | .nil, .Dict [] [] _ => true
      | _, _ => false)
    | .sub a i => (match e with
      | .Subscript x y _ => plainIxB y && (chkE T f ck a x && chkE T f ck i y)
      | _ => false)
    | .sli a lo hi => (match e with
      | .Subscript x (.Slice l h none _) _ => chkE T f ck a x && (chkO T f ck lo l && chkO T f ck hi h)
      | _ => false)
    | .fld a i => (match e with
      | .Attribute x n _ => atB T.an i n && (plainBase x && chkE T f ck a x)
      | _ => false)
    | .ccon g i => (match e with
      | .Attribute (.Name x _) n _ => topB T ck g x && atB T.an i n
      | _ => false)
    | .call g as => (match e with
      | .Call (.Name x _) (y :: ys) [] _ => ck.cm && (topB T ck g x && chkEs T f ck as (y :: ys))
      | _ => false)
    | .callk g ks kv => (match e with
      | .Call (.Name x _) [] kws _ => ck.cm && (topB T ck g x && (namesB T.an ks (kws.filterMap fun k => match k with | ⟨n, _, _⟩ => n) && (Nat.beq ks.length kv.len && (kws.all (fun k => match k with | ⟨n, _, _⟩ => n.isSome) && chkKs T f ck kv kws))))
      | _ => false)
    | .callv i => (match e with
      | .Call (.Name x p) [] [] _ => ck.cm && (match i with
        | .loc _ => chkE T f ck i (.Name x p)
        | _ => false)
      | _ => false)
    | .meth o m as => (match e with
      | .Call (.Attribute x n apos) (y :: ys) [] pos => ck.cm && (atB T.an m n && (plainBase x && (Nat.blt ys.length 29 && ((apos.endLine == pos.line) && (chkE T f ck o x && chkEs T f ck as (y :: ys))))))
      | _ => false)
    | .isi a cs => (match e with
      | .Call (.Name i _) [x, .Name y p] [] _ => decide (i = "isinstance") && (bltB T ck "isinstance" && (noStar x && (crsB T ck cs [.Name y p] && chkE T f ck a x)))
      | .Call (.Name i _) [x, .Tuple ys _ _] [] _ => decide (i = "isinstance") && (bltB T ck "isinstance" && (noStar x && (crsB T ck cs ys && (!cs.isEmpty && (fits cs.length && chkE T f ck a x)))))
      | _ => false)
    | .bf b as => (match e with
      | .Call (.Name x _) (y :: ys) [] _ => decide (x = bfName b) && (bltB T ck (bfName b) && ((!bfCalm b || ck.cm) && chkEs T f ck as (y :: ys)))
      | _ => false)
    | .app o a => (match e with
      | .Call (.Attribute x n apos) [y] [] pos => decide (n = "append") && (plainBase x && ((apos.endLine == pos.line) && (noStar y && (chkE T f ck o x && chkE T f ck a y))))
      | _ => false)
    | .dget o a b => (match e with
      | .Call (.Attribute x n apos) [y, z] [] pos => decide (n = "get") && (plainBase x && ((apos.endLine == pos.line) && (noStar y && (noStar z && (chkE T f ck o x && (chkE T f ck a y && chkE T f ck b z))))))
      | _ => false)
    | .lam d => (match e with
      | .Lambda ps b sc _ => ck.lb && (noArgs ps && (lamOB sc && (match T.P.dfns.get d with
        | some D => (match D.body with
          | .cons (.ret i) .nil => capsB ck.N ck.sc sc D.cells && chkE T f ⟨ck.N, sc, true, false, false⟩ i b
          | _ => false)
        | none => false)))
      | _ => false)
    | .lc a t it cs own => (match e with
      | .ListComp x [⟨tg, iter, ifs, 0⟩] scope _ => chkL T f ck a t it cs own x tg iter ifs scope
      | _ => false)
    | .dc0 a => (match e with
      | .DictComp _ _ [⟨.Tuple _ _ _, .Call (.Attribute x n apos) [] [] cpos, _, 0⟩] scope _ => ck.cm && (decide (n = "items") && (blkC ck.N ck.sc scope (dcOw ck scope) && (plainBase x && ((apos.endLine == cpos.line) && chkE T f ck a x))))
      | _ => false)
/-- a list comprehension's parts -/
def chkL (T : Bs) : Nat → Ck → IE → IT → II → IEs → List Nat → PySem.Expr → PySem.Expr → PySem.Expr → List PySem.Expr → Scope → Bool
  | 0, _, _, _, _, _, _, _, _, _, _, _ => false
  | f + 1, ck, a, t, it, cs, own, x, tg, iter, ifs, scope => ck.cm && (notSet iter && (blkB ck scope own && (keepB own t && (chkI T f ck it tg iter && (chkT T f ⟨ck.N, relS scope ck.sc, true, false, false⟩ t tg && (chkTs T f ⟨ck.N, relS scope ck.sc, true, false, false⟩ cs ifs && chkE T f ⟨ck.N, relS scope ck.sc, true, false, false⟩ a x))))))
/-- a slice's part -/
def chkO (T : Bs) : Nat → Ck → IE → Option PySem.Expr → Bool
  | 0, _, _, _ => false
  | f + 1, ck, ir, o => match o with
    | none => ir.isNon
    | some e => !ir.isNon && chkE T f ck ir e
/-- a test -/
def chkC (T : Bs) : Nat → Ck → IE → PySem.Expr → Bool
  | 0, _, _, _ => false
  | f + 1, ck, ir, e => match e with
    | .BoolOp _ [y] _ => chkC T f ck ir y
    | .BoolOp .And (x :: y :: rest) pos => (match ir with
      | .and a b => chkC T f ck a x && chkC T f ck b (.BoolOp .And (y :: rest) pos)
      | _ => false)
    | .BoolOp .Or (x :: y :: rest) pos => (match ir with
      | .or a b => chkC T f ck a x && chkC T f ck b (.BoolOp .Or (y :: rest) pos)
      | _ => false)
    | .UnaryOp .Not x _ => (match ir with
      | .not a => chkC T f ck a x
      | _ => false)
    | .Compare x [o] [y] _ => (match ir with
      | .cmp op a b => cmEqB o (copOf op) && (!behindInMarks (copOf op) y && (chkE T f ck a x && chkE T f ck b y))
      | _ => false)
    | .Compare x [p1, p2] [y, z] _ => (match ir with
      | .chain o1 o2 a b c => cmEqB p1 (copOf o1) && (cmEqB p2 (copOf o2) && (!lastMarks [copOf o1, copOf o2] [y, z] && (chkE T f ck a x && (chkE T f ck b y && chkE T f ck c z))))
      | _ => false)
    | _ => plainT e && chkE T f ck ir e
def chkEs (T : Bs) : Nat → Ck → IEs → List PySem.Expr → Bool
  | 0, _, _, _ => false
  | f + 1, ck, .nil, [] => true
  | f + 1, ck, .cons a as, x :: xs => noStar x && (chkE T f ck a x && chkEs T f ck as xs)
  | _, _, _, _ => false
def chkKs (T : Bs) : Nat → Ck → IEs → List Keyword → Bool
  | 0, _, _, _ => false
  | f + 1, ck, .nil, [] => true
  | f + 1, ck, .cons a as, ⟨_, x, _⟩ :: xs => chkE T f ck a x && chkKs T f ck as xs
  | _, _, _, _ => false
/-- a clause's tests: none or one -/
def chkTs (T : Bs) : Nat → Ck → IEs → List PySem.Expr → Bool
  | 0, _, _, _ => false
  | f + 1, ck, .nil, [] => true
  | f + 1, ck, .cons a .nil, [x] => chkC T f ck a x
  | _, _, _, _ => false
def chkI (T : Bs) : Nat → Ck → II → PySem.Expr → PySem.Expr → Bool
  | 0, _, _, _, _ => false
  | f + 1, ck, it, tg, e => match it with
    | .ex a => chkE T f ck a e
    | .rng1 a => (match e with
      | .Call (.Name x _) [y] [] _ => decide (x = "range") && (bltB T ck "range" && (noStar y && chkE T f ck a y))
      | _ => false)
    | .rng2 a b => (match e with
      | .Call (.Name x _) [y, z] [] _ => decide (x = "range") && (bltB T ck "range" && (noStar y && (noStar z && (chkE T f ck a y && chkE T f ck b z))))
      | _ => false)
    | .enm a => (match tg, e with
      | .Tuple _ _ _, .Call (.Name x _) [y] [] _ => decide (x = "enumerate") && (bltB T ck "enumerate" && (noStar y && chkE T f ck a y))
      | _, _ => false)
def chkT (T : Bs) : Nat → Ck → IT → PySem.Expr → Bool
  | 0, _, _, _ => false
  | f + 1, ck, t, e => match t with
    | .name i => (match e with
      | .Name x _ => atB ck.N i x && locXB ck x
      | _ => false)
    | .tup ts => (match e with
      | .Tuple xs _ _ => ck.cm && (Nat.beq xs.length ts.len && chkGs T f ck ts xs)
      | _ => false)
    | .sub a i => (match e with
      | .Subscript x y _ => plainIxB y && (chkE T f ck a x && chkE T f ck i y)
      | _ => false)
    | .fld _ _ => false
def chkGs (T : Bs) : Nat → Ck → ITs → List PySem.Expr → Bool
  | 0, _, _, _ => false
  | f + 1, ck, .nil, [] => true
  | f + 1, ck, .cons t ts, x :: xs => noStar x && (chkT T f ck t x && chkGs T f ck ts xs)
  | _, _, _, _ => false
end
end Py

/-! The checker, of statements. -/
set_option Elab.async false
set_option linter.all false
set_option maxRecDepth 100000
noncomputable section
namespace Py
open PySem PySem.Spec PyProof.Rows L2
/-- a, b = x, y with the stores exchanged -/
def parB (T : Bs) (f : Nat) (ck : Ck) (t : IT) (ir : IE) (tg e : PySem.Expr) : Bool := match t, ir, tg, e with
  | .tup (.cons (.name i) (.cons (.name j) .nil)), .tup es, .Tuple [.Name x px, .Name y py] _ _, .Tuple [a, b] _ _ =>
    ck.cm && (funB ck.sc && (atB ck.N i x && (atB ck.N j y && (isLocalB ck.sc x && (isLocalB ck.sc y && (swap2B px py x y a b && chkEs T f ck es [a, b]))))))
  | _, _, _, _ => false
/-- name = [.. for ..] -/
def setB (T : Bs) (f : Nat) (ck : Ck) (t : IT) (ir : IE) (tg e : PySem.Expr) : Bool := match t, ir, tg, e with
  | .name i, .lc a u it cs own, .Name y py, .ListComp x [⟨ug, iter, ifs, 0⟩] scope pos =>
    funB ck.sc && (atB ck.N i y && (isLocalB ck.sc y && ((py.line == pos.line) && (notOwnB scope y && chkL T f ck a u it cs own x ug iter ifs scope))))
  | _, _, _, _ => false
/-- o.f = e -/
def fldB (T : Bs) (f : Nat) (ck : Ck) (t : IT) (ir : IE) (tg e : PySem.Expr) : Bool := match t, tg with
  | .fld a i, .Attribute x n _ => atB T.an i n && (chkE T f ck a x && chkE T f ck ir e)
  | _, _ => false
/-- any other target -/
def plainB (T : Bs) (f : Nat) (ck : Ck) (t : IT) (ir : IE) (tg e : PySem.Expr) : Bool := notComp e && ((noSwapB ck.sc tg e || foldB tg e) && (noStar tg && (chkT T f ck t tg && chkE T f ck ir e)))
mutual
def chkS (T : Bs) : Nat → Ck → IS → Stmt → Bool
  | 0, _, _, _ => false
  | f + 1, ck, s, st => match s with
    | .unk => true
    | .expr a => (match st with
      | .Expr e _ => notComp e && chkE T f ck a e
      | _ => false)
    | .asg t a => (match st with
      | .Assign [tg] e _ => parB T f ck t a tg e || (setB T f ck t a tg e || (fldB T f ck t a tg e || plainB T f ck t a tg e))
      | _ => false)
    | .asg2 _ _ _ => false
    | .aug _ _ _ => false
    | .ret a => (match st with
      | .Return (some e) _ => chkE T f ck a e
      | _ => false)
    | .retN => (match st with
      | .Return none _ => true
      | _ => false)
    | .ite c a b => (match st with
      | .If e x y _ => chkC T f ck c e && (chkSs T f ck a x && chkSs T f ck b y)
      | _ => false)
    | .for_ t it b => (match st with
      | .For tg iter body [] _ => ck.cm && (notSet iter && (chkI T f ck it tg iter && (chkT T f ck t tg && chkSs T f ck b body)))
      | _ => false)
    | .brk => (match st with
      | .Break _ => true
      | _ => false)
    | .cnt => (match st with
      | .Continue _ => true
      | _ => false)
    | .pass => (match st with
      | .Pass _ => true
      | _ => false)
    | .raise g as => (match st with
      | .Raise (some (.Call (.Name x _) (y :: ys) [] _)) none _ => ck.cm && (topB T ck g x && (raisB T.P g && chkEs T f ck as (y :: ys)))
      | _ => false)
    | .try_ b hs => (match st with
      | .Try body (hd :: hds) [] [] _ => ck.cm && (ck.fb && (chkSs T f ck b body && chkHs T f ck hs (hd :: hds)))
      | _ => false)
def chkSs (T : Bs) : Nat → Ck → ISs → List Stmt → Bool
  | 0, _, _, _ => false
  | f + 1, ck, .nil, [] => true
  | f + 1, ck, .cons s ss, st :: sts => chkS T f ck s st && chkSs T f ck ss sts
  | _, _, _, _ => false
def chkHs (T : Bs) : Nat → Ck → IHs → List ExceptHandler → Bool
  | 0, _, _, _ => false
  | f + 1, ck, .nil, [] => true
  | f + 1, ck, .cons g i b hs, .ExceptHandler (some (.Name x _)) (some n) (st :: sts) _ :: hds => topB T ck g x && (atB ck.N i n && (isLocalB ck.sc n && (chkSs T f { ck with cm := false } b (st :: sts) && chkHs T f ck hs hds)))
  | _, _, _, _ => false
end
end Py

/-! The checker is sound: leaves, conditions. -/
set_option Elab.async false
set_option linter.all false
set_option maxRecDepth 100000
noncomputable section
namespace Py
open PySem PySem.Spec PyProof.Rows L2
/-! ### what the small checks say -/
theorem visB_ok {sc : Scope} {x : Str} (h : visB sc x = true) : Vis sc x := by
  unfold visB at h
  unfold Vis
  split at h <;> first | (rename_i e; rw [e]; simp) | cases h
theorem isLocalB_ok {sc : Scope} {x : Str} (h : isLocalB sc x = true) : sc.names.lookup x = some .local := by
  unfold isLocalB at h
  split at h
  · assumption
  · cases h
theorem glB_ok {sc : Scope} {x : Str} (h : glB sc x = true) : sc.names.lookup x = some .globalImplicit := by
  unfold glB at h
  split at h
  · assumption
  · cases h
theorem atB_ok {l : List Str} {i : Nat} {x : Str} (h : atB l i x = true) : l[i]? = some x := by
  unfold atB at h
  split at h
  · rename_i y e
    rw [e, of_decide_eq_true h]
  · cases h
theorem dbgB_ok {x : Str} (h : dbgB x = true) : (x == ("__debug__" : Str)) = false := by
  unfold dbgB at h
  simpa using h
theorem cldB_ok {x : Str} (h : cldB x = true) : (x == ("__classdict__" : Str)) = false := by
  unfold cldB at h
  simpa using h
theorem funB_ok {sc : Scope} (h : funB sc = true) : sc.kind = .function := by
  unfold funB at h
  split at h
  · assumption
  · cases h
theorem and2 {a b : Bool} (h : (a && b) = true) : a = true ∧ b = true := Bool.and_eq_true_iff.mp h
section
variable {T : Tb} {X : Cx} {tl : List (Addr × Str)} {own : List Nat} {W : WX} {fr : Py.Frame} {k : Nat} {C : CallH} {ck : Ck}
theorem topB_ok (Cx : CxOk T tl k X W ck.N ck.sc ck.cm ck.fb ck.lb) {g : Nat} {x : Str} (h : topB T.bs ck g x = true) : T.gn[g]? = some x ∧ Gl X x ∧ (x == ("__debug__" : Str)) = false := by
  unfold topB at h
  obtain ⟨h1, h⟩ := and2 h
  obtain ⟨h2, h3⟩ := and2 h
  refine ⟨atB_ok h1, ?_, dbgB_ok h3⟩
  show X.env.scope.names.lookup x = some .globalImplicit
  rw [Cx.hS]
  exact glB_ok h2
theorem bltB_ok (Cx : CxOk T tl k X W ck.N ck.sc ck.cm ck.fb ck.lb) {x : Str} (h : bltB T.bs ck x = true) : x ∈ T.fr ∧ Gl X x := by
  unfold bltB at h
  obtain ⟨h1, h2⟩ := and2 h
  refine ⟨List.contains_iff_mem.mp h1, ?_⟩
  show X.env.scope.names.lookup x = some .globalImplicit
  rw [Cx.hS]
  exact glB_ok h2
theorem locXB_ok (Cx : CxOk T tl k X W ck.N ck.sc ck.cm ck.fb ck.lb) {x : Str} (h : locXB ck x = true) : LocX X x := by
  unfold locXB at h
  unfold LocX
  rw [Cx.hS]
  split at h
  · rename_i e
    exact ⟨.inl e, .inr e⟩
  · rename_i e
    exact ⟨.inr e, .inl (Cx.fn h x)⟩
  · cases h
theorem crB_ok {c : CR} {x : Str} (h : crB T.bs c x = true) : crExpr T c x := by
  cases c with
  | bt n =>
    unfold crB at h
    obtain ⟨h1, h⟩ := and2 h
    obtain ⟨h2, h3⟩ := and2 h
    exact ⟨of_decide_eq_true h1, of_decide_eq_true h2, List.contains_iff_mem.mp h3⟩
  | own c =>
    unfold crB at h
    obtain ⟨h1, h2⟩ := and2 h
    obtain ⟨g, _, h3⟩ := List.any_eq_true.mp h1
    obtain ⟨h4, h5⟩ := and2 h3
    split at h5
    · rename_i c' e
      refine ⟨g, atB_ok h4, ?_, Option.isSome_iff_exists.mp h2⟩
      rw [← of_decide_eq_true h5]
      exact e
    · cases h5
theorem crsB_ok (Cx : CxOk T tl k X W ck.N ck.sc ck.cm ck.fb ck.lb) : ∀ {cs : List CR} {es : List PySem.Expr}, crsB T.bs ck cs es = true → CrsOk T X cs es
  | [], [], _ => .nil
  | [], _ :: _, h => by unfold crsB at h; cases h
  | c :: cs, [], h => by unfold crsB at h; cases h
  | c :: cs, e :: es, h => by
    unfold crsB at h
    split at h
    · rename_i heq; cases heq
    · rename_i heq1 heq2
      cases heq1
      cases heq2
      obtain ⟨h1, h⟩ := and2 h
      obtain ⟨h2, h⟩ := and2 h
      obtain ⟨h3, h4⟩ := and2 h
      refine .cons (crB_ok h1) ?_ (dbgB_ok h3) (crsB_ok Cx h4)
      show X.env.scope.names.lookup _ = some .globalImplicit
      rw [Cx.hS]
      exact glB_ok h2
    · cases h
theorem ow_at {N : List Str} {own : List Nat} {p : Str × Nat} (h : p ∈ owOf N own) : N[p.2]? = some p.1 := by
  unfold owOf at h
  obtain ⟨i, _, e⟩ := List.mem_filterMap.mp h
  cases q : N[i]? with
  | none => rw [q] at e; cases e
  | some x =>
    rw [q] at e
    cases e
    exact q
theorem blkB_ok (Cx : CxOk T tl k X W ck.N ck.sc ck.cm ck.fb ck.lb) {scope : Scope} {own : List Nat} (h : blkB ck scope own = true) : BlkOk X.N X.env.scope scope (owOf ck.N own) ∧ (owOf ck.N own).map (·.2) = own ∧ ∀ p ∈ owOf ck.N own, (relS scope ck.sc).names.lookup p.1 = some .local := by
  unfold blkB at h
  obtain ⟨h1, h⟩ := and2 h
  obtain ⟨h2, h3⟩ := and2 h
  rw [Cx.hN, Cx.hS]
  exact ⟨blkOk_by h1, of_decide_eq_true h2, fun p hp => isLocalB_ok (List.all_eq_true.mp h3 p hp)⟩
mutual
theorem keepB_ok {P : Prog} {vs : List Nat} : ∀ {t : IT}, keepB vs t = true → KeepsF vs (fun v fr h => assignT P C t v fr h)
  | .name i, h => keeps_name (List.contains_iff_mem.mp h)
  | .tup ts, h => keeps_tup (keepsB_ok (ts := ts) h)
  | .sub _ _, h => by cases h
  | .fld _ _, h => by cases h
theorem keepsB_ok {P : Prog} {vs : List Nat} : ∀ {ts : ITs}, keepB.keepsB vs ts = true → KeepsFs vs (fun v fr h => assignTs P C ts v fr h)
  | .nil, _ => keeps_nil
  | .cons t ts, h => by
    have h : (keepB vs t && keepB.keepsB vs ts) = true := h
    obtain ⟨h1, h2⟩ := and2 h
    exact keeps_cons (keepB_ok h1) (keepsB_ok h2)
end
theorem evalEs_len {P : Prog} : ∀ {es : IEs} {fr : Py.Frame} {h : OHeap} {ys : List PV} {h' : OHeap}, evalEs P C es fr h = .ok ys h' → ys.length = es.len
  | .nil, fr, h, ys, h', e => by
    unfold evalEs at e
    cases e
    rfl
  | .cons a as, fr, h, ys, h', e => by
    unfold evalEs at e
    unfold R.bind at e
    split at e
    · rename_i x h1 _
      dsimp only at e
      split at e
      · split at e
        · rename_i xs h2 e2
          cases e
          show xs.length + 1 = as.len + 1
          rw [evalEs_len e2]
        · cases e
        · cases e
      · cases e
    · cases e
    · cases e
theorem noArgs_ok {ps : Arguments} (h : noArgs ps = true) : ps = ⟨[], [], none, [], [], none, []⟩ := by
  unfold noArgs at h
  split at h
  · rfl
  · cases h
end
end Py

/-! The checker is sound: expressions. -/
set_option Elab.async false
set_option linter.all false
set_option maxRecDepth 100000
set_option maxHeartbeats 2000000
noncomputable section
namespace Py
open PySem PySem.Spec PyProof.Rows L2
/-- a lambda that was checked -/
def LamOk (B : Bs) (d : Nat) (L : LT) : Prop := ∃ D i f, B.P.dfns.get d = some D ∧ D.body = .cons (.ret i) .nil ∧ lamOB L.scope = true ∧ noArgs L.params = true ∧ L.N.Nodup ∧ chkE B f ⟨L.N, L.scope, true, false, false⟩ i L.body = true
/-- a test, whatever its whole is where it is of and, or -/
def Tst (X : Cx) (e : PySem.Expr) (t : TT) : Prop := PT X e t ∧ ∀ op es pos, e = .BoolOp op es pos → PW X e t
theorem Tst.of_pt {X : Cx} {e : PySem.Expr} {t : TT} (h : PT X e t) (n : ∀ op es pos, e ≠ .BoolOp op es pos) : Tst X e t := ⟨h, fun op es pos z => absurd z (n op es pos)⟩
theorem Tst.of_pw {X : Cx} {e : PySem.Expr} {t : TT} (h : PW X e t) : Tst X e t := ⟨h.pt, fun _ _ _ _ => h⟩
section
variable (T : Tb) (tl : List (Addr × Str)) (C : CallH) (k : Nat)
/-- a context of checked text -/
structure At (X : Cx) (W : WX) (ck : Ck) : Prop where
  co : CallsOk T X.K tl X.prog X.w X.mg X.base C k
  cx : CxOk T tl (k + 1) X W ck.N ck.sc ck.cm ck.fb ck.lb
def SE (f : Nat) : Prop := ∀ (ck : Ck) (ir : IE) (e : PySem.Expr), chkE T.bs f ck ir e = true → ∀ (X : Cx) (W : WX) (own : List Nat) (fr : Py.Frame), At T tl C k X W ck → PE X e (tE T X tl own W fr (evalE T.P C ir fr))
def SL (f : Nat) : Prop := ∀ (ck : Ck) (a : IE) (t : IT) (it : II) (cs : IEs) (ow : List Nat) (x tg iter : PySem.Expr) (ifs : List PySem.Expr) (scope : Scope), chkL T.bs f ck a t it cs ow x tg iter ifs scope = true → ∀ (X : Cx) (W : WX) (own : List Nat), At T tl C k X W ck →
  LcOk T X tl own W scope (owOf ck.N ow) x tg iter ifs (fun v fr h => assignT T.P C t v fr h) (fun fr h => evalTs T.P C cs fr h) (fun fr h => evalE T.P C a fr h) (fun fr h => evalI T.P C it fr h) ∧ (owOf ck.N ow).map (·.2) = ow ∧ notSet iter = true
def SO (f : Nat) : Prop := ∀ (ck : Ck) (ir : IE) (o : Option PySem.Expr), chkO T.bs f ck ir o = true → ∀ (X : Cx) (W : WX) (own : List Nat) (fr : Py.Frame), At T tl C k X W ck → PO X o (tPa T X tl own W fr ir.isNon (evalE T.P C ir fr))
def SC (f : Nat) : Prop := ∀ (ck : Ck) (ir : IE) (e : PySem.Expr), chkC T.bs f ck ir e = true → ∀ (X : Cx) (W : WX) (own : List Nat) (fr : Py.Frame), At T tl C k X W ck → Tst X e (tB T X tl own W fr (evalE T.P C ir fr))
def SEs (f : Nat) : Prop := ∀ (ck : Ck) (irs : IEs) (es : List PySem.Expr), chkEs T.bs f ck irs es = true → ∀ (X : Cx) (W : WX) (own : List Nat) (fr : Py.Frame), At T tl C k X W ck → PA X es (tAs T X tl own W fr (evalEs T.P C irs fr)) ∧ es.all noStar = true
def SKs (f : Nat) : Prop := ∀ (ck : Ck) (irs : IEs) (es : List Keyword), chkKs T.bs f ck irs es = true → ∀ (X : Cx) (W : WX) (own : List Nat) (fr : Py.Frame), At T tl C k X W ck → PK X es (tAs T X tl own W fr (evalEs T.P C irs fr))
def STs (f : Nat) : Prop := ∀ (ck : Ck) (irs : IEs) (es : List PySem.Expr), chkTs T.bs f ck irs es = true → ∀ (X : Cx) (W : WX) (own : List Nat) (fr : Py.Frame), At T tl C k X W ck → PTs X es (tTs T X tl own W fr (evalTs T.P C irs fr))
def SI (f : Nat) : Prop := ∀ (ck : Ck) (it : II) (tg e : PySem.Expr), chkI T.bs f ck it tg e = true → ∀ (X : Cx) (W : WX) (own : List Nat) (fr : Py.Frame), At T tl C k X W ck → PI X tg e (tI T X tl own W fr (evalI T.P C it fr))
def ST (f : Nat) : Prop := ∀ (ck : Ck) (t : IT) (e : PySem.Expr), chkT T.bs f ck t e = true → ∀ (X : Cx) (W : WX) (own : List Nat), At T tl C k X W ck → PG X e (tG T X tl own W fun v fr h => assignT T.P C t v fr h)
def SGs (f : Nat) : Prop := ∀ (ck : Ck) (ts : ITs) (es : List PySem.Expr), chkGs T.bs f ck ts es = true → ∀ (X : Cx) (W : WX) (own : List Nat), At T tl C k X W ck → PGs X es (tGs T X tl own W fun v fr h => assignTs T.P C ts v fr h) ∧ es.all noStar = true
end
section
variable {T : Tb} {tl : List (Addr × Str)} {C : CallH} {k f : Nat} {ck : Ck} {X : Cx} {W : WX} {own : List Nat} {fr : Py.Frame}
theorem At.blk (A : At T tl C k X W ck) (hc : ck.cm = true) {scope : Scope} {XB : Cx} (B : IsB X scope XB) {ow : List (Str × Nat)} (ok : BlkOk X.N X.env.scope scope ow) : At T tl C k XB W0 ⟨ck.N, relS scope ck.sc, true, false, false⟩ := by
  have cx := A.cx
  rw [hc] at cx
  rw [cx.hN, cx.hS] at ok
  refine ⟨?_, cx.blk B ok⟩
  obtain ⟨pins, σ, H, ad, s, I, _, rfl⟩ := B
  exact A.co
theorem pe_unk {e : PySem.Expr} : PE X e (tE T X tl own W fr (evalE T.P C .unk fr)) := PE.none fun σ H Q ⟨ρ, h, R, Ev, q⟩ => q
theorem slc_ok (hE : SE T tl C k f) (hI : SI T tl C k f) (hT : ST T tl C k f) (hTs : STs T tl C k f) : SL T tl C k (f + 1) := by
  intro ck a t it cs ow x tg iter ifs scope h X W own A
  unfold chkL at h
  obtain ⟨h1, h⟩ := and2 h
  obtain ⟨h2, h⟩ := and2 h
  obtain ⟨h3, h⟩ := and2 h
  obtain ⟨h4, h⟩ := and2 h
  obtain ⟨h5, h⟩ := and2 h
  obtain ⟨h6, h⟩ := and2 h
  obtain ⟨h7, h8⟩ := and2 h
  obtain ⟨ok, ho, hl⟩ := blkB_ok A.cx h3
  refine ⟨⟨A.cx.calm.trans h1, A.cx.cn.nd, ok, fun fr => hI _ _ _ _ h5 X W own fr A, fun XB B => hT _ _ _ h6 XB W0 own (A.blk h1 B ok), fun XB B => (keepB_ok h4).keeps fun j hj => ?_, fun XB B fr => hTs _ _ _ h7 XB W0 own fr (A.blk h1 B ok), fun XB B fr => hE _ _ _ h8 XB W0 own fr (A.blk h1 B ok)⟩, ho, h2⟩
  have cb := (A.blk h1 B ok).cx
  rw [← ho] at hj
  obtain ⟨p, hp, rfl⟩ := List.mem_map.mp hj
  refine ⟨p.1, ?_, ?_⟩
  · rw [cb.hN]
    exact ow_at hp
  · rw [cb.hS]
    exact hl p hp
theorem so_ok (hE : SE T tl C k f) : SO T tl C k (f + 1) := by
  intro ck ir o h X W own fr A
  unfold chkO at h
  split at h
  · cases ir with
    | non => exact so_none
    | _ => cases h
  · obtain ⟨h1, h2⟩ := and2 h
    have e : ir.isNon = false := by simpa using h1
    rw [e]
    exact so_some (hE _ _ _ h2 X W own fr A)
theorem ses_ok (hE : SE T tl C k f) (hEs : SEs T tl C k f) : SEs T tl C k (f + 1)
  | _, .nil, [], _, X, W, own, fr, A => ⟨sa_nil, rfl⟩
  | _, .nil, _ :: _, h, _, _, _, _, _ => by cases h
  | _, .cons _ _, [], h, _, _, _, _, _ => by cases h
  | ck, .cons a as, x :: xs, h, X, W, own, fr, A => by
    have h : (noStar x && (chkE T.bs f ck a x && chkEs T.bs f ck as xs)) = true := h
    obtain ⟨h1, h⟩ := and2 h
    obtain ⟨h2, h3⟩ := and2 h
    obtain ⟨p, q⟩ := hEs _ _ _ h3 X W own fr A
    exact ⟨sa_cons h1 (hE _ _ _ h2 X W own fr A) p, by rw [List.all_cons, h1, q]; rfl⟩
theorem sks_ok (hE : SE T tl C k f) (hKs : SKs T tl C k f) : SKs T tl C k (f + 1)
  | _, .nil, [], _, X, W, own, fr, A => sk_nil
  | _, .nil, _ :: _, h, _, _, _, _, _ => by cases h
  | _, .cons _ _, [], h, _, _, _, _, _ => by cases h
  | ck, .cons a as, ⟨_, x, _⟩ :: xs, h, X, W, own, fr, A => by
    have h : (chkE T.bs f ck a x && chkKs T.bs f ck as xs) = true := h
    obtain ⟨h2, h3⟩ := and2 h
    exact sk_cons (hE _ _ _ h2 X W own fr A) (hKs _ _ _ h3 X W own fr A)
theorem sts_ok (hC : SC T tl C k f) : STs T tl C k (f + 1)
  | _, .nil, [], _, X, W, own, fr, A => sts_nil
  | _, .nil, _ :: _, h, _, _, _, _, _ => by cases h
  | _, .cons _ .nil, [], h, _, _, _, _, _ => by cases h
  | _, .cons _ (.cons _ _), [], h, _, _, _, _, _ => by cases h
  | _, .cons _ (.cons _ _), _ :: _, h, _, _, _, _, _ => by cases h
  | _, .cons _ .nil, _ :: _ :: _, h, _, _, _, _, _ => by cases h
  | ck, .cons a .nil, [x], h, X, W, own, fr, A => sts_one (hC ck a x h X W own fr A).1
theorem sgs_ok (hT : ST T tl C k f) (hG : SGs T tl C k f) : SGs T tl C k (f + 1)
  | _, .nil, [], _, X, W, own, A => ⟨sgs_nil, rfl⟩
  | _, .nil, _ :: _, h, _, _, _, _ => by cases h
  | _, .cons _ _, [], h, _, _, _, _ => by cases h
  | ck, .cons t ts, x :: xs, h, X, W, own, A => by
    have h : (noStar x && (chkT T.bs f ck t x && chkGs T.bs f ck ts xs)) = true := h
    obtain ⟨h1, h⟩ := and2 h
    obtain ⟨h2, h3⟩ := and2 h
    obtain ⟨p, q⟩ := hG _ _ _ h3 X W own A
    exact ⟨sgs_cons h1 (hT _ _ _ h2 X W own A) p, by rw [List.all_cons, h1, q]; rfl⟩
theorem st_ok (hE : SE T tl C k f) (hG : SGs T tl C k f) : ST T tl C k (f + 1) := by
  intro ck t e h X W own A
  unfold chkT at h
  split at h
  · split at h
    · obtain ⟨h1, h2⟩ := and2 h
      exact sg_name A.cx.cn (by rw [A.cx.hN]; exact atB_ok h1) (locXB_ok A.cx h2)
    · cases h
  · split at h
    · obtain ⟨h1, h⟩ := and2 h
      obtain ⟨h2, h3⟩ := and2 h
      obtain ⟨p, q⟩ := hG _ _ _ h3 X W own A
      exact sg_tup (A.cx.calm.trans h1) q (Nat.eq_of_beq_eq_true h2) p
    · cases h
  · split at h
    · obtain ⟨h1, h⟩ := and2 h
      obtain ⟨h2, h3⟩ := and2 h
      exact sg_sub h1 (fun fr => hE _ _ _ h2 X W own fr A) (fun fr => hE _ _ _ h3 X W own fr A)
    · cases h
  · cases h
theorem si_ok (hE : SE T tl C k f) : SI T tl C k (f + 1) := by
  intro ck it tg e h X W own fr A
  unfold chkI at h
  split at h
  · exact si_seq (hE _ _ _ h X W own fr A)
  · split at h
    · obtain ⟨h1, h⟩ := and2 h
      obtain ⟨h2, h⟩ := and2 h
      obtain ⟨h3, h4⟩ := and2 h
      cases of_decide_eq_true h1
      obtain ⟨m, g⟩ := bltB_ok A.cx h2
      exact si_rng1 g (A.cx.fx.free _ m) h3 (hE _ _ _ h4 X W own fr A)
    · cases h
  · split at h
    · obtain ⟨h1, h⟩ := and2 h
      obtain ⟨h2, h⟩ := and2 h
      obtain ⟨h3, h⟩ := and2 h
      obtain ⟨h4, h⟩ := and2 h
      obtain ⟨h5, h6⟩ := and2 h
      cases of_decide_eq_true h1
      obtain ⟨m, g⟩ := bltB_ok A.cx h2
      exact si_rng2 g (A.cx.fx.free _ m) h3 h4 (hE _ _ _ h5 X W own fr A) (hE _ _ _ h6 X W own fr A)
    · cases h
  · split at h
    · obtain ⟨h1, h⟩ := and2 h
      obtain ⟨h2, h⟩ := and2 h
      obtain ⟨h3, h4⟩ := and2 h
      cases of_decide_eq_true h1
      obtain ⟨m, g⟩ := bltB_ok A.cx h2
      exact si_enm g (A.cx.fx.free _ m) h3 (hE _ _ _ h4 X W own fr A)
    · cases h
theorem pw_one {op : BoolOp} {a : PySem.Expr} {pos : Pos} {t : TT} (ha : PT X a t) : PW X (.BoolOp op [a] pos) t := match op with
  | .And => pw_and1 ha
  | .Or => pw_or1 ha
theorem cm_ok {a b : CmpOp} (h : cmEqB a b = true) : a = b := of_decide_eq_true h
theorem sc_ok (hE : SE T tl C k f) (hC : SC T tl C k f) : SC T tl C k (f + 1) := by
  intro ck ir e h X W own fr A
  unfold chkC at h
  split at h
  · exact .of_pw (pw_one (hC _ _ _ h X W own fr A).1)
  · split at h
    · obtain ⟨h1, h2⟩ := and2 h
      exact .of_pw (st_and (hC _ _ _ h1 X W own fr A).1 ((hC _ _ _ h2 X W own fr A).2 _ _ _ rfl))
    · cases h
  · split at h
    · obtain ⟨h1, h2⟩ := and2 h
      exact .of_pw (st_or (hC _ _ _ h1 X W own fr A).1 ((hC _ _ _ h2 X W own fr A).2 _ _ _ rfl))
    · cases h
  · split at h
    · exact .of_pt (st_not (hC _ _ _ h X W own fr A).1) (fun _ _ _ z => nomatch z)
    · cases h
  · split at h
    · obtain ⟨h1, h⟩ := and2 h
      obtain ⟨h2, h⟩ := and2 h
      obtain ⟨h3, h4⟩ := and2 h
      cases cm_ok h1
      exact .of_pt (st_cmp (Nat.lt_of_le_of_lt (by omega) A.cx.hu) (hE _ _ _ h3 X W own fr A) (hE _ _ _ h4 X W own fr A) (by simpa using h2)) (fun _ _ _ z => nomatch z)
    · cases h
  · split at h
    · obtain ⟨h1, h⟩ := and2 h
      obtain ⟨h2, h⟩ := and2 h
      obtain ⟨h3, h⟩ := and2 h
      obtain ⟨h4, h⟩ := and2 h
      obtain ⟨h5, h6⟩ := and2 h
      cases cm_ok h1
      cases cm_ok h2
      exact .of_pt (st_chain (Nat.lt_of_le_of_lt (by omega) A.cx.hu) (hE _ _ _ h4 X W own fr A) (hE _ _ _ h5 X W own fr A) (hE _ _ _ h6 X W own fr A) (by simpa using h3)) (fun _ _ _ z => nomatch z)
    · cases h
  · obtain ⟨h1, h2⟩ := and2 h
    exact .of_pt (st_val (hE _ _ _ h2 X W own fr A) (plainT_of h1)) (fun _ _ _ z => by rw [z] at h1; cases h1)
end
end Py

/-! The checker is sound: an expression. -/
set_option Elab.async false
set_option linter.all false
set_option maxRecDepth 100000
set_option maxHeartbeats 4000000
noncomputable section
namespace Py
open PySem PySem.Spec PyProof.Rows L2
section
variable {T : Tb} {tl : List (Addr × Str)} {C : CallH} {k f : Nat} {ck : Ck} {X : Cx} {W : WX} {own : List Nat} {fr : Py.Frame}
theorem kws_some : ∀ {kws : List Keyword}, kws.all (fun k => match k with | ⟨n, _, _⟩ => n.isSome) = true → kwNames kws (kws.filterMap fun k => match k with | ⟨n, _, _⟩ => n)
  | [], _ => rfl
  | ⟨n, e, p⟩ :: kws, h => by
    rw [List.all_cons] at h
    obtain ⟨h1, h2⟩ := and2 h
    have ih := kws_some h2
    cases n with
    | none => cases h1
    | some x =>
      unfold kwNames at ih ⊢
      show some x :: _ = some x :: _
      rw [ih]
theorem defaults_none {env : Env} : defaultsOf ⟨[], [], none, [], [], none, []⟩ env = ([], []) := rfl
theorem se_ok (hlt : ∀ d L, LamOk T.bs d L → T.lt d L) (hE : SE T tl C k f) (hO : SO T tl C k f) (hC : SC T tl C k f) (hEs : SEs T tl C k f) (hKs : SKs T tl C k f) (hL : SL T tl C k f) : SE T tl C k (f + 1) := by
  intro ck ir e h X W own fr A
  have cx := A.cx
  unfold chkE at h
  split at h
  · exact pe_one (hE _ _ _ h X W own fr A)
  rename_i hno
  split at h
  · exact pe_unk
  · split at h
    · exact se_non
    · cases h
  · split at h
    · cases (show _ = _ from eq_of_beq h)
      exact se_bl
    · cases h
  · split at h
    · cases (of_decide_eq_true h)
      exact se_int
    · cases h
  · split at h
    · cases (of_decide_eq_true h)
      exact se_str
    · cases h
  · split at h
    · obtain ⟨h1, h⟩ := and2 h
      obtain ⟨h2, h⟩ := and2 h
      obtain ⟨h3, h4⟩ := and2 h
      exact se_loc (by rw [cx.hN]; exact atB_ok h1) (by rw [cx.hS]; exact visB_ok h2) (dbgB_ok h3) (cldB_ok h4)
    · cases h
  · split at h
    · obtain ⟨h1, h2, h3⟩ := topB_ok cx h
      exact se_glo cx.fx h1 h2 h3
    · cases h
  · -- bin
    split at h
    · obtain ⟨h1, h⟩ := and2 h
      obtain ⟨h2, h3⟩ := and2 h
      cases (show _ = _ from of_decide_eq_true h1)
      exact se_bin (hE _ _ _ h2 X W own fr A) (hE _ _ _ h3 X W own fr A)
    · cases h
  · split at h
    · exact se_neg (hE _ _ _ h X W own fr A)
    · cases h
  · split at h
    · exact se_not (hE _ _ _ h X W own fr A)
    · cases h
  · split at h
    · obtain ⟨h1, h⟩ := and2 h
      obtain ⟨h2, h⟩ := and2 h
      obtain ⟨h3, h4⟩ := and2 h
      cases cm_ok h1
      exact se_cmp (Nat.lt_of_le_of_lt (by omega) cx.hu) (hE _ _ _ h3 X W own fr A) (hE _ _ _ h4 X W own fr A) (by simpa using h2)
    · cases h
  · split at h
    · obtain ⟨h1, h⟩ := and2 h
      obtain ⟨h2, h⟩ := and2 h
      obtain ⟨h3, h⟩ := and2 h
      obtain ⟨h4, h⟩ := and2 h
      obtain ⟨h5, h6⟩ := and2 h
      cases cm_ok h1
      cases cm_ok h2
      exact se_chain (Nat.lt_of_le_of_lt (by omega) cx.hu) (hE _ _ _ h4 X W own fr A) (hE _ _ _ h5 X W own fr A) (hE _ _ _ h6 X W own fr A) (by simpa using h3)
    · cases h
  · split at h
    · obtain ⟨h1, h2⟩ := and2 h
      exact se_and (hE _ _ _ h1 X W own fr A) (hE _ _ _ h2 X W own fr A)
    · cases h
  · split at h
    · obtain ⟨h1, h2⟩ := and2 h
      exact se_or (hE _ _ _ h1 X W own fr A) (hE _ _ _ h2 X W own fr A)
    · cases h
  · split at h
    · obtain ⟨h1, h⟩ := and2 h
      obtain ⟨h2, h3⟩ := and2 h
      exact se_ite (hC _ _ _ h1 X W own fr A).1 (hE _ _ _ h2 X W own fr A) (hE _ _ _ h3 X W own fr A)
    · cases h
  · split at h
    · exact se_tup (hEs _ _ _ h X W own fr A).1
    · cases h
  · split at h
    · exact se_lst (hEs _ _ _ h X W own fr A).1
    · cases h
  · split at h
    · exact se_dic0
    · cases h
  · split at h
    · obtain ⟨h1, h⟩ := and2 h
      obtain ⟨h2, h3⟩ := and2 h
      exact se_sub h1 (hE _ _ _ h2 X W own fr A) (hE _ _ _ h3 X W own fr A)
    · cases h
  · split at h
    · obtain ⟨h1, h⟩ := and2 h
      obtain ⟨h2, h3⟩ := and2 h
      exact se_sli (hE _ _ _ h1 X W own fr A) (hO _ _ _ h2 X W own fr A) (hO _ _ _ h3 X W own fr A)
    · cases h
  · split at h
    · obtain ⟨h1, h⟩ := and2 h
      obtain ⟨h2, h3⟩ := and2 h
      exact se_fld cx.fx (atB_ok h1) h2 (hE _ _ _ h3 X W own fr A)
    · cases h
  · split at h
    · obtain ⟨h1, h2⟩ := and2 h
      obtain ⟨t1, t2, t3⟩ := topB_ok cx h1
      exact se_ccon cx.fx t1 (atB_ok h2) t2 t3
    · cases h
  · -- call
    split at h
    · obtain ⟨h1, h⟩ := and2 h
      obtain ⟨h2, h3⟩ := and2 h
      obtain ⟨t1, t2, t3⟩ := topB_ok cx h2
      obtain ⟨p, q⟩ := hEs _ _ _ h3 X W own fr A
      obtain ⟨q1, q2⟩ := and2 (show (noStar _ && _) = true from q)
      exact se_call cx.fx A.co (cx.room h1) cx.gd (cx.tk h1) t1 t2 t3 p q1 q2
    · cases h
  · -- callk
    split at h
    · obtain ⟨h1, h⟩ := and2 h
      obtain ⟨h2, h⟩ := and2 h
      obtain ⟨h3, h⟩ := and2 h
      obtain ⟨h4, h⟩ := and2 h
      obtain ⟨h5, h6⟩ := and2 h
      obtain ⟨t1, t2, t3⟩ := topB_ok cx h2
      exact se_callk cx.fx A.co (cx.room h1) cx.gd (cx.tk h1) t1 t2 t3 h3 (kws_some h5) (hKs _ _ _ h6 X W own fr A) fun h ys h' z => by
        rw [evalEs_len z]
        exact (Nat.eq_of_beq_eq_true h4).symm
    · cases h
  · -- callv
    split at h
    · obtain ⟨h1, h⟩ := and2 h
      split at h
      · exact se_callv A.co (cx.room h1) cx.gd (cx.tk h1) (hE _ _ _ h X W own fr A)
      · cases h
    · cases h
  · -- meth
    split at h
    · obtain ⟨h1, h⟩ := and2 h
      obtain ⟨h2, h⟩ := and2 h
      obtain ⟨h3, h⟩ := and2 h
      obtain ⟨h4, h⟩ := and2 h
      obtain ⟨h5, h⟩ := and2 h
      obtain ⟨h6, h7⟩ := and2 h
      obtain ⟨p, q⟩ := hEs _ _ _ h7 X W own fr A
      obtain ⟨q1, q2⟩ := and2 (show (noStar _ && _) = true from q)
      exact se_meth cx.fx A.co (cx.room h1) cx.gd (cx.tk h1) (atB_ok h2) h3 (Nat.le_of_ble_eq_true h4) h5 (hE _ _ _ h6 X W own fr A) p q1 q2
    · cases h
  · -- isi
    split at h
    · obtain ⟨h1, h⟩ := and2 h
      obtain ⟨h2, h⟩ := and2 h
      obtain ⟨h3, h⟩ := and2 h
      obtain ⟨h4, h5⟩ := and2 h
      cases of_decide_eq_true h1
      obtain ⟨m, g⟩ := bltB_ok cx h2
      have z := crsB_ok cx h4
      cases z with
      | cons e hg hd r =>
        cases r
        exact se_isi1 cx.fx e hg hd m g h3 (hE _ _ _ h5 X W own fr A)
    · obtain ⟨h1, h⟩ := and2 h
      obtain ⟨h2, h⟩ := and2 h
      obtain ⟨h3, h⟩ := and2 h
      obtain ⟨h4, h⟩ := and2 h
      obtain ⟨h5, h⟩ := and2 h
      obtain ⟨h6, h7⟩ := and2 h
      cases of_decide_eq_true h1
      obtain ⟨m, g⟩ := bltB_ok cx h2
      exact se_isiN cx.fx (crsB_ok cx h4) (by intro z; rw [z] at h5; cases h5) (Nat.le_of_ble_eq_true h6) m g h3 (hE _ _ _ h7 X W own fr A)
    · cases h
  · -- bf
    split at h
    · obtain ⟨h1, h⟩ := and2 h
      obtain ⟨h2, h⟩ := and2 h
      obtain ⟨h3, h4⟩ := and2 h
      cases of_decide_eq_true h1
      obtain ⟨m, g⟩ := bltB_ok cx h2
      obtain ⟨p, q⟩ := hEs _ _ _ h4 X W own fr A
      obtain ⟨q1, q2⟩ := and2 (show (noStar _ && _) = true from q)
      exact se_bf cx.gd cx.hu (fun z => by
        rw [z] at h3
        exact cx.calm.trans h3) g (cx.fx.free _ m) p q1 q2
    · cases h
  · -- append
    split at h
    · obtain ⟨h1, h⟩ := and2 h
      obtain ⟨h2, h⟩ := and2 h
      obtain ⟨h3, h⟩ := and2 h
      obtain ⟨h4, h⟩ := and2 h
      obtain ⟨h5, h6⟩ := and2 h
      cases of_decide_eq_true h1
      exact se_app h2 h3 (hE _ _ _ h5 X W own fr A) h4 (hE _ _ _ h6 X W own fr A)
    · cases h
  · -- get
    split at h
    · obtain ⟨h1, h⟩ := and2 h
      obtain ⟨h2, h⟩ := and2 h
      obtain ⟨h3, h⟩ := and2 h
      obtain ⟨h4, h⟩ := and2 h
      obtain ⟨h5, h⟩ := and2 h
      obtain ⟨h6, h⟩ := and2 h
      obtain ⟨h7, h8⟩ := and2 h
      cases of_decide_eq_true h1
      exact se_dget cx.hu h2 h3 (hE _ _ _ h6 X W own fr A) h4 h5 (hE _ _ _ h7 X W own fr A) (hE _ _ _ h8 X W own fr A)
    · cases h
  · -- lambda
    split at h
    · rename_i ps b sc p
      obtain ⟨h1, ha⟩ := and2 h
      obtain ⟨h2, hb⟩ := and2 ha
      obtain ⟨h3, hc⟩ := and2 hb
      clear h ha hb
      cases noArgs_ok h2
      split at hc
      · rename_i D hD
        split at hc
        · rename_i i hb
          obtain ⟨h4, h5⟩ := and2 hc
          refine se_lam (L := ⟨⟨[], [], none, [], [], none, []⟩, b, sc, ck.N, X.env.qual ++ "<lambda>"⟩) (hlt _ _ ⟨D, i, f, hD, hb, h3, rfl, ?_, h5⟩) hD cx.hN.symm rfl defaults_none ?_ (cx.lam h1)
          · show ck.N.Nodup
            rw [← cx.hN]
            exact cx.cn.nd
          · rw [cx.hN, cx.hS]
            exact h4
        · cases hc
      · cases hc
    · cases h
  · -- list comprehension
    split at h
    · rename_i scope pos
      obtain ⟨L, ho, hs⟩ := hL _ _ _ _ _ _ _ _ _ _ _ h X W own A
      have z := se_lc (fr := fr) (pos := pos) L hs
      rw [ho] at z
      exact z
    · cases h
  · -- dict comprehension
    split at h
    · obtain ⟨h1, h⟩ := and2 h
      obtain ⟨h2, h⟩ := and2 h
      obtain ⟨h3, h⟩ := and2 h
      obtain ⟨h4, h⟩ := and2 h
      obtain ⟨h5, h6⟩ := and2 h
      cases of_decide_eq_true h2
      exact se_dc0 (cx.calm.trans h1) cx.cn.nd (by rw [cx.hN, cx.hS]; exact blkOk_by h3) h4 h5 (hE _ _ _ h6 X W own fr A)
    · cases h
end
end Py

/-! The checker is sound: statements. -/
set_option Elab.async false
set_option linter.all false
set_option maxRecDepth 100000
set_option maxHeartbeats 4000000
noncomputable section
namespace Py
open PySem PySem.Spec PyProof.Rows L2
section
variable (T : Tb) (tl : List (Addr × Str)) (C : CallH) (k : Nat)
def SS (f : Nat) : Prop := ∀ (ck : Ck) (s : IS) (st : Stmt), chkS T.bs f ck s st = true → ∀ (X : Cx) (W : WX) (own : List Nat), At T tl C k X W ck → QS X st (tS T X tl own W (evalS T.P C s))
def SSs (f : Nat) : Prop := ∀ (ck : Ck) (ss : ISs) (sts : List Stmt), chkSs T.bs f ck ss sts = true → ∀ (X : Cx) (W : WX) (own : List Nat), At T tl C k X W ck → QSs X sts (tS T X tl own W (evalSs T.P C ss))
def SH (f : Nat) : Prop := ∀ (ck : Ck) (hs : IHs) (hds : List ExceptHandler), chkHs T.bs f ck hs hds = true → ∀ (X : Cx) (W : WX) (own : List Nat), At T tl C k X W ck → HsOk T X tl own hds (evalHs T.P C hs)
end
section
variable {T : Tb} {tl : List (Addr × Str)} {C : CallH} {k f : Nat} {ck : Ck} {X : Cx} {W : WX} {own : List Nat} {fr : Py.Frame} {P : Prog}
theorem nx_toS {α : Type} {r : Py.R α} {fr : Py.Frame} {g : α → OHeap → RS} (h : ∀ a h, NxOnly (g a h)) : NxOnly (r.toS fr g) := by
  cases r with
  | ok a h1 => exact h a h1
  | ex e h1 => exact True.intro
  | no => exact True.intro
mutual
theorem nxa : ∀ (t : IT), NxA (fun v fr h => assignT P C t v fr h)
  | .name i => fun x fr h => by
    show NxOnly (match fput fr i x h with
      | some (fr, h) => .nx fr h
      | none => .no)
    split <;> exact True.intro
  | .tup ts => fun x fr h => by
    show NxOnly (match x with
      | .tup xs => (match Nat.beq xs.length ts.len with
        | true => assignTs P C ts xs fr h
        | false => .no)
      | _ => .no)
    split
    · split
      · exact nxas ts _ fr h
      · exact True.intro
    · exact True.intro
  | .sub a i => fun x fr h => nx_toS fun y h1 => nx_toS fun z h2 => by
    split
    · split
      · split <;> exact True.intro
      · exact True.intro
    · exact True.intro
  | .fld a i => fun x fr h => nx_toS fun y h1 => by
    split
    · split
      · split <;> exact True.intro
      · exact True.intro
    · exact True.intro
theorem nxas : ∀ (ts : ITs) (vs : List PV) (fr : Py.Frame) (h : OHeap), NxOnly (assignTs P C ts vs fr h)
  | .nil, vs, fr, h => by
    show NxOnly (match vs with
      | [] => .nx fr h
      | _ => .no)
    split <;> exact True.intro
  | .cons t ts, vs, fr, h => by
    show NxOnly (match vs with
      | x :: xs => (match assignT P C t x fr h with
        | .nx fr h => assignTs P C ts xs fr h
        | .ex e fr h => .ex e fr h
        | _ => .no)
      | [] => .no)
    split
    · split
      · exact nxas ts _ _ _
      · exact True.intro
      · exact True.intro
    · exact True.intro
end
theorem At.suite (A : At T tl C k X W ck) (a : Addr) (pn : List (Addr × Obj)) : At T tl C k (X.suite a pn) (fun _ _ _ _ => False) { ck with cm := false } := by
  obtain ⟨co, hN, hS, cn, calm, fx, hu, gd, room, tk, po, fn, stk, lam⟩ := A
  exact ⟨co, ⟨hN, hS, ⟨cn.nd, cn.inj⟩, rfl, fx, hu, gd, (fun z => by cases z), (fun z => by cases z), (fun z => by cases z), fn, stk, lam⟩⟩
theorem At.tr (A : At T tl C k X W ck) {W' : WX} {pn : List (Addr × Obj)} {xe : Value → Shared → Prop} (tk' : Takes (X.tr pn xe) W') (po' : PassesOwn (model X.prog X.w) X.A X.env xe) : At T tl C k (X.tr pn xe) W' ck := by
  obtain ⟨co, hN, hS, cn, calm, fx, hu, gd, room, tk, po, fn, stk, lam⟩ := A
  exact ⟨co, ⟨hN, hS, ⟨cn.nd, cn.inj⟩, calm, fx, hu, gd, room, fun _ => tk', fun _ => po', fn, stk, lam⟩⟩
theorem shs_ok (hSs : SSs T tl C k f) (hH : SH T tl C k f) : SH T tl C k (f + 1) := by
  intro ck hs hds h X W own A
  cases hs with
  | nil =>
    cases hds with
    | nil => exact .nil
    | cons _ _ => cases h
  | cons g i b hs =>
    cases hds with
    | nil => cases h
    | cons hd hds =>
      obtain ⟨ty, nm, body, p⟩ := hd
      cases ty with
      | none => cases h
      | some ty =>
        cases ty with
        | Name x np =>
          cases nm with
          | none => cases h
          | some n =>
            cases body with
            | nil => cases h
            | cons st sts =>
              have h : (topB T.bs ck g x && (atB ck.N i n && (isLocalB ck.sc n && (chkSs T.bs f { ck with cm := false } b (st :: sts) && chkHs T.bs f ck hs hds)))) = true := h
              obtain ⟨h1, h⟩ := and2 h
              obtain ⟨h2, h⟩ := and2 h
              obtain ⟨h3, h⟩ := and2 h
              obtain ⟨h4, h5⟩ := and2 h
              obtain ⟨t1, t2, t3⟩ := topB_ok A.cx h1
              exact .cons t1 t2 t3 (by rw [A.cx.hN]; exact atB_ok h2) (by rw [A.cx.hS]; exact isLocalB_ok h3) (fun a pn => hSs _ _ _ h4 _ _ own (A.suite a pn)) (hH _ _ _ h5 X W own A)
        | _ => cases h
theorem sss_ok (hS : SS T tl C k f) (hSs : SSs T tl C k f) : SSs T tl C k (f + 1)
  | _, .nil, [], _, X, W, own, A => ss_nil
  | _, .nil, _ :: _, h, _, _, _, _ => by cases h
  | _, .cons _ _, [], h, _, _, _, _ => by cases h
  | ck, .cons s ss, st :: sts, h, X, W, own, A => by
    have h : (chkS T.bs f ck s st && chkSs T.bs f ck ss sts) = true := h
    obtain ⟨h1, h2⟩ := and2 h
    exact ss_cons (hS _ _ _ h1 X W own A) (hSs _ _ _ h2 X W own A)
theorem par_ok (hEs : SEs T tl C k f) {t : IT} {ir : IE} {tg e : PySem.Expr} {pos : Pos} (h : parB T.bs f ck t ir tg e = true) (A : At T tl C k X W ck) : QS X (.Assign [tg] e pos) (tS T X tl own W (evalS T.P C (.asg t ir))) := by
  unfold parB at h
  split at h
  · obtain ⟨h1, h⟩ := and2 h
    obtain ⟨h2, h⟩ := and2 h
    obtain ⟨h3, h⟩ := and2 h
    obtain ⟨h4, h⟩ := and2 h
    obtain ⟨h5, h⟩ := and2 h
    obtain ⟨h6, h⟩ := and2 h
    obtain ⟨h7, h8⟩ := and2 h
    exact ss_par A.cx.cn (A.cx.calm.trans h1) (by rw [A.cx.hS]; exact funB_ok h2) (by rw [A.cx.hN]; exact atB_ok h3) (by rw [A.cx.hN]; exact atB_ok h4) (by rw [A.cx.hS]; exact isLocalB_ok h5) (by rw [A.cx.hS]; exact isLocalB_ok h6) h7 (fun fr => (hEs _ _ _ h8 X W own fr A).1)
  · cases h
theorem set_ok (hL : SL T tl C k f) {t : IT} {ir : IE} {tg e : PySem.Expr} {pos : Pos} (h : setB T.bs f ck t ir tg e = true) (A : At T tl C k X W ck) : QS X (.Assign [tg] e pos) (tS T X tl own W (evalS T.P C (.asg t ir))) := by
  unfold setB at h
  split at h
  · obtain ⟨h1, h⟩ := and2 h
    obtain ⟨h2, h⟩ := and2 h
    obtain ⟨h3, h⟩ := and2 h
    obtain ⟨h4, h⟩ := and2 h
    obtain ⟨h5, h6⟩ := and2 h
    obtain ⟨L, ho, hs⟩ := hL _ _ _ _ _ _ _ _ _ _ _ h6 X W own A
    have z := ss_setLc (spos := pos) A.cx.cn L hs (by rw [A.cx.hS]; exact funB_ok h1) (by rw [A.cx.hN]; exact atB_ok h2) (by rw [A.cx.hS]; exact isLocalB_ok h3) h4 h5
    rw [ho] at z
    exact z
  · cases h
theorem fld_ok (hE : SE T tl C k f) {t : IT} {ir : IE} {tg e : PySem.Expr} {pos : Pos} (h : fldB T.bs f ck t ir tg e = true) (A : At T tl C k X W ck) : QS X (.Assign [tg] e pos) (tS T X tl own W (evalS T.P C (.asg t ir))) := by
  unfold fldB at h
  split at h
  · obtain ⟨h1, h⟩ := and2 h
    obtain ⟨h2, h3⟩ := and2 h
    exact ss_fld A.cx.fx (atB_ok h1) (fun fr => hE _ _ _ h2 X W own fr A) (fun fr => hE _ _ _ h3 X W own fr A)
  · cases h
theorem plain_ok (hE : SE T tl C k f) (hT : ST T tl C k f) {t : IT} {ir : IE} {tg e : PySem.Expr} {pos : Pos} (h : plainB T.bs f ck t ir tg e = true) (A : At T tl C k X W ck) : QS X (.Assign [tg] e pos) (tS T X tl own W (evalS T.P C (.asg t ir))) := by
  unfold plainB at h
  obtain ⟨h1, h⟩ := and2 h
  obtain ⟨h2, h⟩ := and2 h
  obtain ⟨h3, h⟩ := and2 h
  obtain ⟨h4, h5⟩ := and2 h
  refine ss_asgF (nxa t) h1 ?_ h3 (fun fr => hE _ _ _ h5 X W own fr A) (hT _ _ _ h4 X W own A)
  rcases Bool.or_eq_true_iff.mp h2 with h2 | h2
  · exact noSwap_ok (by rw [A.cx.hS]; exact h2)
  · exact fold_ok h2
theorem raisB_ok {g : Nat} (h : raisB T.bs.P g = true) : ∃ c Kc f fs, T.P.globs.get g = some (.cls c) ∧ T.P.clss.get c = some Kc ∧ Kc.exc = some (f :: fs) := by
  unfold raisB at h
  split at h
  · rename_i c hc
    split at h
    · rename_i Kc hk
      split at h
      · rename_i f fs hf
        exact ⟨c, Kc, f, fs, hc, hk, hf⟩
      · cases h
    · cases h
  · cases h
theorem ss_ok (hE : SE T tl C k f) (hC : SC T tl C k f) (hEs : SEs T tl C k f) (hL : SL T tl C k f) (hI : SI T tl C k f) (hT : ST T tl C k f) (hSs : SSs T tl C k f) (hH : SH T tl C k f) : SS T tl C k (f + 1) := by
  intro ck s st h X W own A
  have cx := A.cx
  unfold chkS at h
  split at h
  · exact ⟨fun pins s σ H D I ⟨ρ, h, fr, R, Ev, q⟩ => q.elim⟩
  · split at h
    · obtain ⟨h1, h2⟩ := and2 h
      exact ss_expr h1 (fun fr => hE _ _ _ h2 X W own fr A)
    · cases h
  · split at h
    · rcases Bool.or_eq_true_iff.mp h with h | h
      · exact par_ok hEs h A
      rcases Bool.or_eq_true_iff.mp h with h | h
      · exact set_ok hL h A
      rcases Bool.or_eq_true_iff.mp h with h | h
      · exact fld_ok hE h A
      · exact plain_ok hE hT h A
    · cases h
  · cases h
  · cases h
  · split at h
    · exact ss_ret (fun fr => hE _ _ _ h X W own fr A)
    · cases h
  · split at h
    · exact ss_retN
    · cases h
  · split at h
    · obtain ⟨h1, h⟩ := and2 h
      obtain ⟨h2, h3⟩ := and2 h
      exact ss_if (fun fr => (hC _ _ _ h1 X W own fr A).1) (hSs _ _ _ h2 X W own A) (hSs _ _ _ h3 X W own A)
    · cases h
  · split at h
    · obtain ⟨h1, h⟩ := and2 h
      obtain ⟨h2, h⟩ := and2 h
      obtain ⟨h3, h⟩ := and2 h
      obtain ⟨h4, h5⟩ := and2 h
      exact ss_for (cx.po h1) (cx.calm.trans h1) h2 (fun fr => hI _ _ _ _ h3 X W own fr A) (hT _ _ _ h4 X W own A) (hSs _ _ _ h5 X W own A)
    · cases h
  · split at h
    · exact ss_brk
    · cases h
  · split at h
    · exact ss_cnt
    · cases h
  · split at h
    · exact ss_pass
    · cases h
  · split at h
    · obtain ⟨h1, h⟩ := and2 h
      obtain ⟨h2, h⟩ := and2 h
      obtain ⟨h3, h4⟩ := and2 h
      obtain ⟨t1, t2, t3⟩ := topB_ok cx h2
      have p := fun fr => hEs _ _ _ h4 X W own fr A
      obtain ⟨q1, q2⟩ := and2 (show (noStar _ && _) = true from (p []).2)
      exact ss_raise cx.fx A.co (cx.room h1) (cx.tk h1) (cx.calm.trans h1) t1 t2 t3 (raisB_ok h3) (fun fr => (p fr).1) q1 q2
    · cases h
  · split at h
    · obtain ⟨h1, h⟩ := and2 h
      obtain ⟨h2, h⟩ := and2 h
      obtain ⟨h3, h4⟩ := and2 h
      obtain ⟨s1, s2⟩ := cx.stk h2
      exact ss_try s1 s2 cx.cn (cx.calm.trans h1) cx.fx (cx.tk h1) (fun W' pn xe tk' po' => hSs _ _ _ h3 _ W' own (A.tr tk' po')) (hH _ _ _ h4 X W own A)
    · cases h
/-! ### all together -/
structure All (T : Tb) (tl : List (Addr × Str)) (C : CallH) (k f : Nat) : Prop where
  e : SE T tl C k f
  l : SL T tl C k f
  o : SO T tl C k f
  c : SC T tl C k f
  es : SEs T tl C k f
  ks : SKs T tl C k f
  ts : STs T tl C k f
  i : SI T tl C k f
  t : ST T tl C k f
  gs : SGs T tl C k f
  s : SS T tl C k f
  ss : SSs T tl C k f
  h : SH T tl C k f
theorem sound (hlt : ∀ d L, LamOk T.bs d L → T.lt d L) : ∀ f, All T tl C k f
  | 0 => ⟨fun _ _ _ h => (by cases h), fun _ _ _ _ _ _ _ _ _ _ _ h => (by cases h), fun _ _ _ h => (by cases h), fun _ _ _ h => (by cases h), fun _ _ _ h => (by cases h), fun _ _ _ h => (by cases h), fun _ _ _ h => (by cases h), fun _ _ _ _ h => (by cases h), fun _ _ _ h => (by cases h), fun _ _ _ h => (by cases h), fun _ _ _ h => (by cases h), fun _ _ _ h => (by cases h), fun _ _ _ h => (by cases h)⟩
  | f + 1 => by
    have ih := sound hlt f
    exact ⟨se_ok hlt ih.e ih.o ih.c ih.es ih.ks ih.l, slc_ok ih.e ih.i ih.t ih.ts, so_ok ih.e, sc_ok ih.e ih.c, ses_ok ih.e ih.es, sks_ok ih.e ih.ks, sts_ok ih.c, si_ok ih.e, st_ok ih.e ih.gs, sgs_ok ih.t ih.gs, ss_ok ih.e ih.c ih.es ih.l ih.i ih.t ih.ss ih.h, sss_ok ih.s ih.ss, shs_ok ih.ss ih.h⟩
end
end Py

/-! What the calls do, by induction on their depth. -/
set_option Elab.async false
set_option linter.all false
set_option maxRecDepth 100000
set_option maxHeartbeats 1000000
noncomputable section
namespace Py
open PySem PySem.Spec PyProof.Rows L2
/-- all that the module must say of a text that was checked -/
structure Tx (T : Tb) (K : PySem.W.Frag) (tl : List (Addr × Str)) (P : Program) (mg : Str → Option Value) (base : Heap) : Prop where
  fx : Fx T K mg
  gx : Gx T K mg
  rx : Rx T P K mg
  df : ∀ d D Dt, T.P.dfns.get d = some D → T.dt.get d = some Dt → ∃ fd f, DefOk T K mg base tl D Dt Dt.lb fd ∧ chkSs T.bs f ⟨Dt.N, Dt.scope, true, true, Dt.lb⟩ D.body Dt.body = true
  lt : ∀ d L, T.lt d L ↔ LamOk T.bs d L
section
variable {T : Tb} {tl : List (Addr × Str)} {K : PySem.W.Frag} {base : Heap} {P : Program} {w : World} {mg : Str → Option Value} {C : CallH} {k : Nat}
/-- a body that was checked -/
theorem body_ok (hlt : ∀ d L, LamOk T.bs d L → T.lt d L) (CO : CallsOk T K tl P w mg base C k) {f : Nat} {ck : Ck} {ss : ISs} {sts : List Stmt} (hc : chkSs T.bs f ck ss sts = true) (X : Cx) (W : WX) (own : List Nat) (h1 : X.prog = P) (h2 : X.w = w) (h3 : X.K = K) (h4 : X.mg = mg) (h5 : X.base = base)
    (cx : CxOk T tl (k + 1) X W ck.N ck.sc ck.cm ck.fb ck.lb) : QSs X sts (tS T X tl own W (evalSs T.P C ss)) := by
  subst h1 h2 h3 h4 h5
  exact (sound hlt f).ss _ _ _ hc X W own ⟨CO, cx⟩
theorem expr_ok (hlt : ∀ d L, LamOk T.bs d L → T.lt d L) (CO : CallsOk T K tl P w mg base C k) {f : Nat} {ck : Ck} {ir : IE} {e : PySem.Expr} (hc : chkE T.bs f ck ir e = true) (X : Cx) (W : WX) (own : List Nat) (fr : Py.Frame) (h1 : X.prog = P) (h2 : X.w = w) (h3 : X.K = K) (h4 : X.mg = mg) (h5 : X.base = base)
    (cx : CxOk T tl (k + 1) X W ck.N ck.sc ck.cm ck.fb ck.lb) : PE X e (tE T X tl own W fr (evalE T.P C ir fr)) := by
  subst h1 h2 h3 h4 h5
  exact (sound hlt f).e _ _ _ hc X W own fr ⟨CO, cx⟩
theorem bind_lam (name qual : Str) (b : PySem.Expr) (sc : Scope) (cl : List (Str × Addr)) (pm : Value) (c : Addr) (ct : Value) : bindArgs (PySem.W.kla_fn name qual ⟨[], [], none, [], [], none, []⟩ b sc cl pm (.ref c) ct) ⟨[], []⟩ = pure [] := by
  unfold bindArgs
  simp [PySem.W.kla_fn, seqItems?]
  rfl
theorem calls_ok (G : Tx T K tl P mg base) : ∀ n, CallsOk T K tl P w mg base (callD T.P n) (2 * n)
  | 0 => ⟨G.gx, G.rx, fun d D Dt ks kn hD hDt hk A outer s H us ws vs zs xs ys ρ h Q E hr hg e0 r1 r2 hl R rx ry q => by
      unfold callDef at q
      rw [hD] at q
      dsimp only at q
      split at q
      · exact q.elim
      · exact q.elim, fun A outer s H ρ h Q E a d caps p hr hg e0 R hc hp hne q => q.elim⟩
  | n + 1 => by
    have CO := calls_ok G n
    refine ⟨G.gx, G.rx, fun d D Dt ks kn hD hDt hk => ?_, fun A outer s H ρ h Q E a d caps p hr hg e0 R hc hp hne q => ?_⟩
    · obtain ⟨fd, f, DO, hch⟩ := G.df d D Dt hD hDt
      have z := does_def (w := w) (C := callD T.P n) (k := 2 * n + 1) DO G.fx (fun X W own h1 h2 h3 h4 h5 cx => body_ok (fun d L => (G.lt d L).mpr) CO hch X W own h1 h2 h3 h4 h5 cx) hk
      have e : (fun xs ys h => callDef T.P (callD T.P (n + 1)) d xs kn ys h) = evDef T.P (callD T.P n) D kn := by
        funext xs ys h
        unfold callDef evDef
        rw [hD]
        dsimp only
        cases hb : bindA D xs kn ys with
        | none => rfl
        | some vs =>
          have e2 : callD T.P (n + 1) d vs [] h = callB T.P (callD T.P n) D vs h := by
            show (match T.P.dfns.get d with
              | some D => _
              | none => _) = _
            rw [hD]
            rfl
          exact e2
      rw [e]
      exact z
    · unfold callD at q
      split at q
      case h_2 => exact q.elim
      rename_i D hD
      cases caps with
      | nil => exact absurd rfl hne
      | cons c0 cr =>
        dsimp only at q
        split at q
        case h_2 => exact q.elim
        rename_i i hb
        refine run_lam (k := 2 * n + 1) (C := callD T.P n) (e := i) (ns := D.ns) G.fx (fun L hL => ?_) hr hg e0 R hc hp q
        obtain ⟨D', i', f, hD', hb', h1, h2, h3, h4⟩ := (G.lt d L).mp hL
        rw [show T.bs.P.dfns.get d = some D from hD] at hD'
        cases hD'
        rw [hb] at hb'
        cases hb'
        refine ⟨lamO_by h1, h3, fun qual cl pm c ct => ?_, fun X W own fr g1 g2 g3 g4 g5 cx => expr_ok (fun d L => (G.lt d L).mpr) CO h4 X W own fr g1 g2 g3 g4 g5 cx⟩
        rw [noArgs_ok h2]
        exact bind_lam _ _ _ _ _ _ _ _
end
end Py

/-! Binding: positional values, keywords, defaults. -/
set_option Elab.async false
set_option linter.all false
set_option maxRecDepth 100000
set_option maxHeartbeats 1000000
noncomputable section
namespace Py
open PySem PySem.Spec PyProof.Rows L2
theorem look_mem {ν : Type} {n : Str} : ∀ {l : List (Str × ν)}, n ∈ l.map (·.1) → ∃ v, l.lookup n = some v
  | [], h => by simp at h
  | (k, v) :: l, h => by
    rw [List.lookup_cons]
    cases hb : n == k with
    | true => exact ⟨v, rfl⟩
    | false =>
      rw [List.map_cons] at h
      rcases List.mem_cons.mp h with z | z
      · rw [show n = k from z, beq_self_eq_true] at hb
        cases hb
      · exact look_mem z
theorem look_not {ν : Type} {n : Str} : ∀ {l : List (Str × ν)}, n ∉ l.map (·.1) → l.lookup n = none
  | [], _ => rfl
  | (k, v) :: l, h => by
    rw [List.map_cons] at h
    rw [List.lookup_cons, show (n == k) = false by simpa using fun z => h (by rw [z]; exact List.mem_cons_self)]
    exact look_not fun z => h (List.mem_cons_of_mem _ z)
theorem look_cat {ν : Type} {n : Str} : ∀ {l m : List (Str × ν)}, (l ++ m).lookup n = match l.lookup n with
    | some v => some v
    | none => m.lookup n
  | [], m => rfl
  | (k, v) :: l, m => by
    rw [List.cons_append, List.lookup_cons, List.lookup_cons]
    cases n == k with
    | true => rfl
    | false => exact look_cat (l := l)
/-- the loop over the keywords -/
theorem kw_loop {β : Type} {names : List Str} {f : Str × Value → List (Str × Value) × β → Sem (ForInStep (List (Str × Value) × β))} (hf : ∀ k v sl ex, k ∈ names → sl.lookup k = none → f (k, v) (sl, ex) = pure (.yield (sl ++ [(k, v)], ex))) :
    ∀ {l : List (Str × Value)} {sl : List (Str × Value)} {ex : β}, (∀ p ∈ l, p.1 ∈ names) → (l.map (·.1)).Nodup → (∀ p ∈ l, sl.lookup p.1 = none) → forIn l (sl, ex) f = pure (sl ++ l, ex)
  | [], sl, ex, _, _, _ => by rw [List.forIn_nil, List.append_nil]
  | (k, v) :: l, sl, ex, h1, h2, h3 => by
    obtain ⟨n1, n2⟩ := List.nodup_cons.mp (show (k :: l.map (·.1)).Nodup from h2)
    rw [List.forIn_cons, hf k v sl ex (h1 _ List.mem_cons_self) (h3 _ List.mem_cons_self), pure_bind]
    show forIn l (sl ++ [(k, v)], ex) f = _
    rw [kw_loop hf (fun p hp => h1 p (List.mem_cons_of_mem _ hp)) n2 fun p hp => ?_, List.append_assoc]
    · rfl
    · rw [look_cat, h3 p (List.mem_cons_of_mem _ hp)]
      exact look_not (l := [(k, v)]) fun z => n1 (by
        have e : p.1 = k := by simpa using z
        rw [← e]
        exact List.mem_map_of_mem hp)
/-- the loop over the defaults -/
def addD (sl : List (Str × Value)) : List (Str × Value) → List (Str × Value)
  | [] => sl
  | q :: l => if (sl.lookup q.1).isNone = true then addD (sl ++ [(q.1, q.2)]) l else addD sl l
theorem dfl_loop : ∀ {l : List (Str × Value)} {sl : List (Str × Value)}, (forIn l sl fun x s => if (List.lookup x.1 s).isNone = true then pure (ForInStep.yield (s ++ [(x.1, x.2)])) else pure (ForInStep.yield s) : Sem (List (Str × Value))) = pure (addD sl l)
  | [], sl => by rw [List.forIn_nil]; rfl
  | q :: l, sl => by
    rw [List.forIn_cons]
    unfold addD
    by_cases h : (List.lookup q.1 sl).isNone = true
    · rw [if_pos h, if_pos h, pure_bind]
      exact dfl_loop
    · rw [if_neg h, if_neg h, pure_bind]
      exact dfl_loop
theorem addD_look {n : Str} : ∀ {l sl : List (Str × Value)}, (addD sl l).lookup n = match sl.lookup n with
    | some v => some v
    | none => l.lookup n
  | [], sl => by
    unfold addD
    cases sl.lookup n <;> rfl
  | (k, v) :: l, sl => by
    unfold addD
    by_cases h : (List.lookup k sl).isNone = true
    · rw [if_pos h, addD_look, look_cat]
      cases e : sl.lookup n with
      | some u => rfl
      | none =>
        show (match (List.lookup n [(k, v)]) with | some v => some v | none => l.lookup n) = List.lookup n ((k, v) :: l)
        rw [List.lookup_cons, List.lookup_cons]
        cases n == k <;> rfl
    · rw [if_neg h, addD_look]
      cases e : sl.lookup n with
      | some u => rfl
      | none =>
        show l.lookup n = List.lookup n ((k, v) :: l)
        rw [List.lookup_cons]
        cases hb : n == k with
        | false => rfl
        | true =>
          rw [← beq_iff_eq.mp hb, e] at h
          exact absurd rfl h
theorem fmz {slots : List (Str × Value)} : ∀ {ns : List Str} {gs : List Value}, gs.length = ns.length → (∀ (i : Nat) n v, ns[i]? = some n → gs[i]? = some v → slots.lookup n = some v) → ns.filterMap (fun n => (slots.lookup n).map fun x => (n, x)) = ns.zip gs
  | [], gs, h, _ => by rw [List.filterMap_nil, List.zip_nil_left]
  | n :: ns, [], h, _ => by cases h
  | n :: ns, v :: gs, h, hg => by
    rw [List.filterMap_cons, hg 0 n v rfl rfl, List.zip_cons_cons]
    show (n, v) :: _ = _
    rw [fmz (by simpa using h) fun i m u e1 e2 => hg (i + 1) m u (by simpa using e1) (by simpa using e2)]
theorem bind_gen {name qual : Str} {args : List Arg} {kwd : List (Option PySem.Expr)} {dfl : List PySem.Expr} {body : List Stmt} {scope : Scope} {dV kV doc pm cdv ct : Value} {an : Option Addr} {us ws gs : List Value} {ks : List Str} {o : Option (Array Value)} {names : List Str}
    (hn : args.map (·.arg) = names) (hl : us.length ≤ names.length) (kn : ks.Nodup) (kl : ws.length = ks.length) (km : ∀ k ∈ ks, k ∈ names ∧ k ∉ (names.zip us).map (·.1)) (hd : (o.getD #[]).size ≤ names.length)
    (hm : ∀ n ∈ names.take (names.length - (o.getD #[]).size), ∃ v, (names.zip us ++ ks.zip ws).lookup n = some v) (gl : gs.length = names.length)
    (hg : ∀ (i : Nat) n v, names[i]? = some n → gs[i]? = some v → (match (names.zip us ++ ks.zip ws).lookup n with | some v => some v | none => ((names.drop (names.length - (o.getD #[]).size)).zip (o.getD #[]).toList).lookup n) = some v)
    {M : Model} {A : Around} {E : Value → Shared → Prop} {Q : List (Str × Value) → Shared → Prop} {s : Shared} (ho : ∀ {α : Type} {k : Option (Array Value) → Sem α} {Q : α → Shared → Prop}, wpAny M A (k o) Q E s → wpAny M A (seqItems? dV >>= k) Q E s) (hq : Q (names.zip gs) s) :
    wpAny M A (bindArgs (PySem.W.fnOf name qual ⟨[], args, none, [], kwd, none, dfl⟩ body scope dV kV doc pm an cdv ct) ⟨us, ks.zip ws⟩) Q E s := by
  have al : args.length = names.length := by rw [← hn, List.length_map]
  have h1 : ¬ args.length < us.length := by omega
  unfold bindArgs
  simp only [PySem.W.fnOf, List.map_nil, List.nil_append, hn, List.append_nil]
  rw [kw_loop (names := names) (fun k v sl ex hk hs => ?_) (fun p hp => (km p.1 (List.of_mem_zip (a := p.1) (b := p.2) hp).1).1) ?_ fun p hp => look_not (km p.1 (List.of_mem_zip (a := p.1) (b := p.2) hp).1).2]
  · rw [pure_bind]
    refine ho ?_
    have hz : (o.getD #[]).toList.length = (o.getD #[]).size := Array.length_toList
    have h0 : (o.getD #[]).toList.length - names.length = 0 := by omega
    have hf : (List.take (names.length - (o.getD #[]).toList.length) names).filter (fun n => (List.lookup n (names.zip us ++ ks.zip ws)).isNone) = [] := by
      rw [List.filter_eq_nil_iff]
      intro n hn'
      rw [hz] at hn'
      obtain ⟨v, e⟩ := hm n hn'
      rw [e]
      exact Bool.false_ne_true
    rw [if_neg (by simp; omega)]
    simp only [h0, List.drop_zero, hf, List.isEmpty_nil, Bool.not_true, Bool.false_eq_true, if_false]
    rw [dfl_loop, pure_bind]
    simp only [List.forIn_nil, pure_bind, List.isEmpty_nil, Bool.not_true, Bool.false_eq_true, if_false]
    refine wpAny_pure ?_
    rw [fmz gl fun i n v e1 e2 => ?_]
    · exact hq
    · rw [addD_look, hz]
      exact hg i n v e1 e2
  · rw [List.map_fst_zip (by omega)]
    exact kn
  · have e1 : (names.contains k || ([] : List Str).contains k) = true := by
      rw [List.contains_iff_mem.mpr hk]
      rfl
    have e2 : ¬ (List.lookup k sl).isSome = true := by rw [hs]; exact Bool.false_ne_true
    rw [if_pos e1, if_neg e2]
end Py

/-! Further ways to call a def: keywords, defaults. -/
set_option Elab.async false
set_option linter.all false
set_option maxRecDepth 100000
set_option maxHeartbeats 1000000
noncomputable section
namespace Py
open PySem PySem.Spec PyProof.Rows L2
section
variable (T : Tb) (K : PySem.W.Frag) (ρ : List Addr) (H : Hp)
def AL : List (Nat × PV) → List (Str × Value) → Prop
  | [], S => S = []
  | (p, x) :: r, S => ∃ n u v q, S = (n, u) :: q ∧ T.an[p]? = some n ∧ RelV v u ∧ VR T K ρ H x v ∧ AL r q
end
section
variable {T : Tb} {K : PySem.W.Frag} {ρ : List Addr} {H : Hp}
theorem AL.look (nd : T.an.Nodup) {p : Nat} {n : Str} (hn : T.an[p]? = some n) : ∀ {sl : List (Nat × PV)} {S : List (Str × Value)}, AL T K ρ H sl S → (∀ x, lookN p sl = some x → ∃ u v, S.lookup n = some u ∧ RelV v u ∧ VR T K ρ H x v) ∧ (lookN p sl = none → S.lookup n = none)
  | [], S, a => by
    cases (show S = [] from a)
    exact ⟨fun x e => by (cases e), fun _ => rfl⟩
  | (q, y) :: r, S, a => by
    obtain ⟨m, u, v, S', rfl, hm, r1, r2, a'⟩ := a
    have ih := AL.look nd hn a'
    unfold lookN
    rw [List.lookup_cons]
    cases hb : Nat.beq q p with
    | true =>
      cases Nat.eq_of_beq_eq_true hb
      rw [hn] at hm
      cases hm
      rw [beq_self_eq_true]
      exact ⟨fun x e => by cases e; exact ⟨u, v, rfl, r1, r2⟩, fun e => by cases e⟩
    | false =>
      have ne : (n == m) = false := by
        rw [beq_eq_false_iff_ne]
        intro z
        subst z
        rw [nodup_ix nd hm hn, Nat.beq_refl] at hb
        cases hb
      rw [ne]
      exact ih
theorem AL.cat : ∀ {sl sl' : List (Nat × PV)} {S S' : List (Str × Value)}, AL T K ρ H sl S → AL T K ρ H sl' S' → AL T K ρ H (sl ++ sl') (S ++ S')
  | [], _, _, _, a, b => by
    cases (show _ = [] from a)
    exact b
  | (q, y) :: r, _, _, _, a, b => by
    obtain ⟨m, u, v, S', rfl, hm, r1, r2, a'⟩ := a
    exact ⟨m, u, v, _, rfl, hm, r1, r2, a'.cat b⟩
theorem AL.zip : ∀ {ps : List Nat} {ns : List Str} {xs : List PV} {vs : List V} {us : List Value}, namesB T.an ps ns = true → VRs T K ρ H xs vs → Vals vs us → AL T K ρ H (ps.zip xs) (ns.zip us)
  | [], [], _, _, _, _, _, _ => rfl
  | [], _ :: _, _, _, _, h, _, _ => by cases h
  | _ :: _, [], _, _, _, h, _, _ => by cases h
  | p :: ps, n :: ns, [], vs, us, _, rx, rv => by
    cases (show vs = [] from rx)
    cases rv
    rfl
  | p :: ps, n :: ns, x :: xs, vs, us, h, rx, rv => by
    obtain ⟨v, vs', rfl, r1, r2⟩ := rx
    cases rv with
    | @cons _ u _ us' ru rv' =>
      obtain ⟨h1, h2⟩ := and2 (show (decide (T.an[p]? = some n) && namesB T.an ps ns) = true from h)
      exact ⟨n, u, v, _, rfl, of_decide_eq_true h1, ru, r1, AL.zip h2 r2 rv'⟩
/-- defaults, told twice -/
def dflA (an : List Str) : List (Nat × PV) → List Str → List V → Bool
  | [], [], [] => true
  | (p, x) :: r, n :: ns, v :: vs => decide (an[p]? = some n) && (flatP x && (decide (v = flatV' x) && dflA an r ns vs))
  | _, _, _ => false
theorem AL.dfl : ∀ {dfl : List (Nat × PV)} {ns : List Str} {dvs : List V} {us : List Value}, dflA T.an dfl ns dvs = true → Vals dvs us → AL T K ρ H dfl (ns.zip us)
  | [], [], [], us, _, rv => by
    cases rv
    rfl
  | [], [], _ :: _, _, h, _ => by cases h
  | [], _ :: _, _, _, h, _ => by cases h
  | _ :: _, [], _, _, h, _ => by cases h
  | _ :: _, _ :: _, [], _, h, _ => by cases h
  | (p, x) :: r, n :: ns, v :: vs, us, h, rv => by
    have h : (decide (T.an[p]? = some n) && (flatP x && (decide (v = flatV' x) && dflA T.an r ns vs))) = true := h
    obtain ⟨h1, h⟩ := and2 h
    obtain ⟨h2, h⟩ := and2 h
    obtain ⟨h3, h4⟩ := and2 h
    cases rv with
    | @cons _ u _ us' ru rv' => exact ⟨n, u, v, _, rfl, of_decide_eq_true h1, ru, (flatV'_ok h2).mp (of_decide_eq_true h3), AL.dfl h4 rv'⟩
theorem dflA_len {an : List Str} : ∀ {dfl : List (Nat × PV)} {ns : List Str} {dvs : List V}, dflA an dfl ns dvs = true → dfl.length = dvs.length ∧ ns.length = dvs.length
  | [], [], [], _ => ⟨rfl, rfl⟩
  | [], [], _ :: _, h => by cases h
  | [], _ :: _, _, h => by cases h
  | _ :: _, [], _, h => by cases h
  | _ :: _, _ :: _, [], h => by cases h
  | (p, x) :: r, n :: ns, v :: vs, h => by
    have h : (decide (an[p]? = some n) && (flatP x && (decide (v = flatV' x) && dflA an r ns vs))) = true := h
    obtain ⟨h1, h⟩ := and2 h
    obtain ⟨h2, h⟩ := and2 h
    obtain ⟨h3, h4⟩ := and2 h
    obtain ⟨e1, e2⟩ := dflA_len h4
    exact ⟨by rw [List.length_cons, List.length_cons, e1], by rw [List.length_cons, List.length_cons, e2]⟩
theorem go_ok (nd : T.an.Nodup) {sl dfl : List (Nat × PV)} {S Sd : List (Str × Value)} (a : AL T K ρ H sl S) (b : AL T K ρ H dfl Sd) : ∀ {ps : List Nat} {ns : List Str} {bound : List PV}, namesB T.an ps ns = true → bindGo sl dfl ps = some bound →
    ∃ bs gs, Vals bs gs ∧ bs.length = ns.length ∧ VRs T K ρ H bound bs ∧ ∀ (i : Nat) n v, ns[i]? = some n → gs[i]? = some v → (match S.lookup n with | some v => some v | none => Sd.lookup n) = some v
  | [], [], bound, _, e => by
    cases e
    exact ⟨[], [], .nil, rfl, rfl, fun i n v e => by simp at e⟩
  | [], _ :: _, _, h, _ => by cases h
  | _ :: _, [], _, h, _ => by cases h
  | p :: ps, n :: ns, bound, h, e => by
    obtain ⟨h1, h2⟩ := and2 (show (decide (T.an[p]? = some n) && namesB T.an ps ns) = true from h)
    have hn := of_decide_eq_true h1
    unfold bindGo at e
    split at e
    · rename_i x hx
      split at e
      · rename_i xs hxs
        cases e
        obtain ⟨bs, gs, i1, i2, i3, i4⟩ := go_ok nd a b h2 hxs
        have key : ∃ u v, (match S.lookup n with | some v => some v | none => Sd.lookup n) = some u ∧ RelV v u ∧ VR T K ρ H x v := by
          cases e1 : lookN p sl with
          | some y =>
            rw [e1] at hx
            cases hx
            obtain ⟨u, v, q1, q2, q3⟩ := (a.look nd hn).1 x e1
            exact ⟨u, v, by rw [q1], q2, q3⟩
          | none =>
            rw [e1] at hx
            obtain ⟨u, v, q1, q2, q3⟩ := (b.look nd hn).1 x hx
            exact ⟨u, v, by rw [(a.look nd hn).2 e1]; exact q1, q2, q3⟩
        obtain ⟨u, v, q1, q2, q3⟩ := key
        refine ⟨v :: bs, u :: gs, .cons q2 i1, by rw [List.length_cons, List.length_cons, i2], ⟨v, bs, rfl, q3, i3⟩, fun i m w e1 e2 => ?_⟩
        cases i with
        | zero =>
          have e1 : n = m := by simpa using e1
          have e2 : u = w := by simpa using e2
          rw [← e1, ← e2]
          exact q1
        | succ i => exact i4 i m w (by simpa using e1) (by simpa using e2)
      · cases e
    · cases e
def shB (D : Dfn) (n : Nat) (kn : List Nat) : Bool := Nat.ble n D.ps.length && (decide kn.Nodup && (kn.all (fun k => D.ps.contains k && !(D.ps.take n).contains k) && (Nat.ble D.dfl.length D.ps.length && (D.ps.take (D.ps.length - D.dfl.length)).all fun p => (D.ps.take n).contains p || kn.contains p)))
theorem names_get : ∀ {an : List Str} {ps : List Nat} {ns : List Str} {i : Nat}, namesB an ps ns = true → (∀ p, ps[i]? = some p → ∃ n, ns[i]? = some n ∧ an[p]? = some n) ∧ ∀ n, ns[i]? = some n → ∃ p, ps[i]? = some p ∧ an[p]? = some n
  | _, [], [], i, _ => ⟨fun p e => by simp at e, fun p e => by simp at e⟩
  | _, [], _ :: _, _, h => by cases h
  | _, _ :: _, [], _, h => by cases h
  | an, p :: ps, n :: ns, i, h => by
    obtain ⟨h1, h2⟩ := and2 (show (decide (an[p]? = some n) && namesB an ps ns) = true from h)
    cases i with
    | zero =>
      refine ⟨fun q e => ?_, fun m e => ?_⟩
      · have e : p = q := by simpa using e
        rw [← e]
        exact ⟨n, rfl, of_decide_eq_true h1⟩
      · have e : n = m := by simpa using e
        rw [← e]
        exact ⟨p, rfl, of_decide_eq_true h1⟩
    | succ i =>
      have ih := names_get (i := i) h2
      exact ⟨fun q e => by simpa using ih.1 q (by simpa using e), fun m e => by simpa using ih.2 m (by simpa using e)⟩
/-- the same place -/
theorem names_mem {an : List Str} (nd : an.Nodup) {ps qs : List Nat} {ns ms : List Str} (h : namesB an ps ns = true) (h' : namesB an qs ms = true) {i : Nat} {p : Nat} {n : Str} (e1 : ps[i]? = some p) (e2 : ns[i]? = some n) : (p ∈ qs → n ∈ ms) ∧ (n ∈ ms → p ∈ qs) := by
  obtain ⟨n', e3, hp⟩ := (names_get (i := i) h).1 p e1
  rw [e2] at e3
  cases e3
  constructor
  · intro hm
    obtain ⟨j, hj, e⟩ := List.getElem_of_mem hm
    obtain ⟨m, e4, e5⟩ := (names_get (i := j) h').1 p (by rw [List.getElem?_eq_getElem hj, e])
    rw [hp] at e5
    cases e5
    exact List.mem_of_getElem? e4
  · intro hm
    obtain ⟨j, hj, e⟩ := List.getElem_of_mem hm
    obtain ⟨q, e4, e5⟩ := (names_get (i := j) h').2 n (by rw [List.getElem?_eq_getElem hj, e])
    rw [nodup_ix nd hp e5]
    exact List.mem_of_getElem? e4
theorem names_take : ∀ {an : List Str} {ps : List Nat} {ns : List Str} {k : Nat}, namesB an ps ns = true → namesB an (ps.take k) (ns.take k) = true
  | _, _, _, 0, _ => by rw [List.take_zero, List.take_zero]; rfl
  | _, [], [], _ + 1, _ => rfl
  | _, [], _ :: _, _, h => by cases h
  | _, _ :: _, [], _, h => by cases h
  | an, p :: ps, n :: ns, k + 1, h => by
    obtain ⟨h1, h2⟩ := and2 (show (decide (an[p]? = some n) && namesB an ps ns) = true from h)
    show (decide (an[p]? = some n) && namesB an (ps.take k) (ns.take k)) = true
    rw [h1, names_take h2]
    rfl
theorem names_nodup {an : List Str} : ∀ {ps : List Nat} {ns : List Str}, namesB an ps ns = true → ps.Nodup → an.Nodup → ns.Nodup
  | [], [], _, _, _ => List.nodup_nil
  | [], _ :: _, h, _, _ => by cases h
  | _ :: _, [], h, _, _ => by cases h
  | p :: ps, n :: ns, h, nd, na => by
    obtain ⟨h1, h2⟩ := and2 (show (decide (an[p]? = some n) && namesB an ps ns) = true from h)
    obtain ⟨n1, n2⟩ := List.nodup_cons.mp nd
    refine List.nodup_cons.mpr ⟨fun hm => n1 ?_, names_nodup h2 n2 na⟩
    exact (names_mem (i := 0) (p := p) (n := n) na h h2 rfl rfl).2 hm
theorem map_fst_take {ν : Type} : ∀ {ns : List Str} {us : List ν}, us.length ≤ ns.length → (ns.zip us).map (·.1) = ns.take us.length
  | _, [], _ => by simp
  | [], _ :: _, h => by simp at h
  | n :: ns, u :: us, h => by
    rw [List.zip_cons_cons, List.map_cons, List.length_cons, List.take_succ_cons, map_fst_take (by simpa using h)]
theorem sh_ok {D : Dfn} {Dt : DT} {fd : FuncData} {dvs : List V} {kws : List (Str × V)} {f : Addr} {n : Nat} {kn : List Nat} (Fd : FunD K Dt.name Dt.qual Dt.params Dt.body Dt.scope dvs kws f fd) (hp : plainPs Dt.params Dt.ps) (hps : namesB T.an D.ps Dt.ps = true) (an : T.an.Nodup)
    (hd : dflA T.an D.dfl (Dt.ps.drop (Dt.ps.length - dvs.length)) dvs = true) (hs : shB D n kn = true) : ShOk T K D Dt fd n kn := by
  intro ks s us ws vs zs xs ys ρ H bound hks KI r1 r2 hlu hlw rx ry hb
  obtain ⟨args, kwd, dfl, hparams, hargs⟩ := hp
  obtain ⟨oc, od, dV, kV, doc, pm, ann, cdv, ct, osl, efd, lk, hcd, hD, hK⟩ := Fd.ex
  have hs : (Nat.ble n D.ps.length && (decide kn.Nodup && (kn.all (fun k => D.ps.contains k && !(D.ps.take n).contains k) && (Nat.ble D.dfl.length D.ps.length && (D.ps.take (D.ps.length - D.dfl.length)).all fun p => (D.ps.take n).contains p || kn.contains p)))) = true := hs
  obtain ⟨s1, hs⟩ := and2 hs
  obtain ⟨s2, hs⟩ := and2 hs
  obtain ⟨s3, hs⟩ := and2 hs
  obtain ⟨s5, s4⟩ := and2 hs
  have s1 := Nat.le_of_ble_eq_true s1
  have s5 := Nat.le_of_ble_eq_true s5
  have s2 := of_decide_eq_true s2
  obtain ⟨dl1, dl2⟩ := dflA_len hd
  have lps := names_len hps
  -- the defaults' values
  obtain ⟨its, hits, ho⟩ : ∃ o : Option (Array Value), Vals dvs (o.getD #[]).toList ∧ ∀ {M : Model} {A : Around} {E : Value → Shared → Prop} {α : Type} {k : Option (Array Value) → Sem α} {Q : α → Shared → Prop}, wpAny M A (k o) Q E s → wpAny M A (seqItems? dV >>= k) Q E s := by
    rcases hD with ⟨e1, rfl⟩ | ⟨_, T', o, its, m, rfl, lT, oT, rv⟩
    · rw [e1]
      exact ⟨none, .nil, fun {M A E α k Q} q => wpAny_bind (wpAny_pure q)⟩
    · exact ⟨some its.toArray, by simpa using rv, fun {M A E α k Q} q => wpAny_bind (wpAny_seqItems (KI _ _ lT) oT q)⟩
  have hsz : (its.getD #[]).size = dvs.length := by
    rw [← Array.length_toList]
    exact (Paired.length hits).symm
  have a : AL T K ρ H (D.ps.zip xs ++ kn.zip ys) (Dt.ps.zip us ++ ks.zip ws) := (AL.zip hps rx r1).cat (AL.zip hks ry r2)
  have b : AL T K ρ H D.dfl ((Dt.ps.drop (Dt.ps.length - dvs.length)).zip (its.getD #[]).toList) := AL.dfl hd hits
  obtain ⟨bs, gs, g1, g2, g3, g4⟩ := go_ok an a b hps hb
  refine ⟨bs, gs, fun M A E Q hq => ?_, g1, g2, g3⟩
  rw [efd, hparams]
  have gl : gs.length = Dt.ps.length := by rw [← Paired.length g1]; exact g2
  have hul : us.length ≤ Dt.ps.length := by omega
  have mem : ∀ k ∈ ks, k ∈ Dt.ps ∧ k ∉ (Dt.ps.zip us).map (·.1) := fun k hk => by
    obtain ⟨j, hj, e⟩ := List.getElem_of_mem hk
    have ej : ks[j]? = some k := by rw [List.getElem?_eq_getElem hj, e]
    obtain ⟨p, e1, e2⟩ := (names_get (i := j) hks).2 k ej
    obtain ⟨c1, c2⟩ := and2 (List.all_eq_true.mp s3 p (List.mem_of_getElem? e1))
    refine ⟨(names_mem an hks hps e1 ej).1 (List.contains_iff_mem.mp c1), fun z => ?_⟩
    rw [map_fst_take hul, hlu] at z
    have := (names_mem an hks (names_take (k := n) hps) e1 ej).2 z
    rw [List.contains_iff_mem.mpr this] at c2
    cases c2
  refine bind_gen (o := its) (names := Dt.ps) (gs := gs) hargs hul (names_nodup hks s2 an) hlw mem (by omega) (fun m hm => ?_) gl (fun i m v e1 e2 => ?_) ho hq
  · rw [hsz] at hm
    obtain ⟨j, hj, e⟩ := List.getElem_of_mem hm
    have ej : (Dt.ps.take (Dt.ps.length - dvs.length))[j]? = some m := by rw [List.getElem?_eq_getElem hj, e]
    have hpt : namesB T.an (D.ps.take (Dt.ps.length - dvs.length)) (Dt.ps.take (Dt.ps.length - dvs.length)) = true := names_take hps
    obtain ⟨p, e1, e2⟩ := (names_get (i := j) hpt).2 m ej
    have hall := List.all_eq_true.mp s4 p (by rw [lps, dl1]; exact List.mem_of_getElem? e1)
    rw [look_cat]
    rcases Bool.or_eq_true_iff.mp hall with z | z
    · have z := (names_mem an hpt (names_take (k := n) hps) e1 ej).1 (List.contains_iff_mem.mp z)
      obtain ⟨v, ev⟩ := look_mem (l := Dt.ps.zip us) (n := m) (by rw [map_fst_take hul, hlu]; exact z)
      exact ⟨v, by rw [ev]⟩
    · have z := (names_mem an hpt hks e1 ej).1 (List.contains_iff_mem.mp z)
      obtain ⟨v, ev⟩ := look_mem (l := ks.zip ws) (n := m) (by rw [List.map_fst_zip (by omega)]; exact z)
      cases e3 : (Dt.ps.zip us).lookup m with
      | some u => exact ⟨u, rfl⟩
      | none => exact ⟨v, ev⟩
  · rw [hsz]
    exact g4 i m v e1 e2
end
end Py

/-! The module's facts, as a Bool of the written part. -/
set_option Elab.async false
set_option linter.all false
set_option maxRecDepth 100000
set_option maxHeartbeats 1000000
noncomputable section
namespace Py
open PySem PySem.Spec PyProof.Rows L2
namespace Tr
def allB {α : Type} : (Nat → α → Bool) → Tr α → Bool
  | _, .nil => true
  | p, .node v l r => (v.all fun x => p 0 x) && (allB (fun j x => p (2 * j + 1) x) l && allB (fun j x => p (2 * j + 2) x) r)
theorem get_succ {α : Type} (v : Option α) (l r : Tr α) (m : Nat) : (Tr.node v l r).get (m + 1) = (match Nat.beq (m % 2) 0 with
        | true => l.get (m / 2)
        | false => r.get (m / 2)) := by
  show (Bool.rec (motive := fun _ => Option α) (r.get (m / 2)) (l.get (m / 2)) (Nat.beq (m % 2) 0) : Option α) = _
  cases Nat.beq (m % 2) 0 <;> rfl
theorem allB_get {α : Type} : ∀ {t : Tr α} {p : Nat → α → Bool}, allB p t = true → ∀ {k : Nat} {x : α}, t.get k = some x → p k x = true
  | .nil, p, _, k, x, e => by cases k <;> cases e
  | .node v l r, p, h, k, x, e => by
    obtain ⟨h1, h⟩ := and2 (show ((v.all fun x => p 0 x) && (allB (fun j x => p (2 * j + 1) x) l && allB (fun j x => p (2 * j + 2) x) r)) = true from h)
    obtain ⟨h2, h3⟩ := and2 h
    cases k with
    | zero =>
      have e : v = some x := e
      rw [e] at h1
      exact h1
    | succ m =>
      have e : (match Nat.beq (m % 2) 0 with
        | true => l.get (m / 2)
        | false => r.get (m / 2)) = some x := (get_succ v l r m).symm.trans e
      cases hb : Nat.beq (m % 2) 0 with
      | true =>
        rw [hb] at e
        have h4 := allB_get h2 e
        have hm : m % 2 = 0 := Nat.eq_of_beq_eq_true hb
        rwa [show 2 * (m / 2) + 1 = m + 1 by omega] at h4
      | false =>
        rw [hb] at e
        have h4 := allB_get h3 e
        have hm : ¬ m % 2 = 0 := Nat.ne_of_beq_eq_false hb
        rwa [show 2 * (m / 2) + 2 = m + 1 by omega] at h4
end Tr
/-! ### names -/
section
variable (T : Tb) (K : PySem.W.Frag)
def gloB (x : Str) : Bool := He.eqO (PySem.W.nsIn K mainGlobals x) (some (some (.ref (He.ga K x))))
def globB : Bool := T.P.globs.allB fun g v => match v with
  | .val v => !flatP v || (match T.gn[g]? with
    | some x => (match PySem.W.nsIn K mainGlobals x with
      | some (some u) => He.relB (flatV' v) u
      | _ => false)
    | none => false)
  | .cls c => (match T.gn[g]?, T.cn[c]? with
    | some x, some y => decide (x = y) && gloB K x
    | _, _ => false)
  | .fn d => (match T.gn[g]?, T.dt.get d with
    | some x, some Dt => decide (Dt.at_ = (x, none)) && (gloB K x && PySem.W.keepIn K (.ref (He.ga K x)))
    | _, _ => false)
  | .keys _ => true
def allBT : List BT := [.non, .bl, .int, .str, .lst, .tup, .dct]
theorem allBT_all (t : BT) : t ∈ allBT := by cases t <;> simp [allBT]
def kitCB (C : Addr) : Bool := (PySem.W.clsIn K C).isSome && (He.eqO (PySem.W.findIn K (.ref C) "__class__") (some (some (.builtin "object.__class__"))) && (He.eqO (PySem.W.specialIn K (.builtin "object.__class__") "__get__") (some (some (.builtin "getset_descriptor.__get__"))) &&
  (decide (PySem.W.takesIn K (.builtin "object.__class__") = some true) && decide (PySem.W.mroIn K C (.type "object") = some true))))
def kitB (c : Nat) (Kc : Cls) : Bool := kitCB K (cAdr T K c) && ((allBT.all fun t => decide (PySem.W.kitOne K (.ref (cAdr T K c)) (.type (btS t)) = some false) && decide (PySem.W.kitOne K (.type (btS t)) (.ref (cAdr T K c)) = some false)) &&
  T.P.clss.allB fun c' _ => decide (PySem.W.kitOne K (.ref (cAdr T K c)) (.ref (cAdr T K c')) = some (Kc.mro.any fun x => Nat.beq x c')))
def noAtB (C : Addr) (n : Str) : Bool := He.eqO (PySem.W.findIn K (.ref C) n) (some none)
def fldsB (c : Nat) (Kc : Cls) : Bool := Kc.flds.all fun f => match T.an[f]? with
  | some n => noAtB K (cAdr T K c) n
  | none => false
def conB (c : Nat) (Kc : Cls) : Bool := Kc.cons.isEmpty || (PySem.W.readsIn K (cAdr T K c) (.type "type") && (He.eqO (PySem.W.specialIn K (.ref (cAdr T K c)) "__getattribute__") (some (some (.builtin "type.__getattribute__"))) && Kc.cons.all fun q => !flatP q.2 || (match T.an[q.1]? with
  | some n => (match PySem.W.findCls K (.ref (cAdr T K c)) (.type "type") n with
    | some (.val u) => He.relB (flatV' q.2) u
    | _ => false)
  | none => false)))
def clsB (C : Addr) : Bool := PySem.W.plainGet K C Str.empty && (PySem.W.hasDictIn K C && (PySem.W.plainOver K C && He.eqO (PySem.W.findIn K (.ref C) "__setattr__") (some (some (.builtin "object.__setattr__")))))
def methB (c : Nat) (Kc : Cls) : Bool := Kc.meths.all fun q => match T.dt.get q.2, T.an[q.1]? with
  | some Dt, some n => He.eqO (PySem.W.findIn K (.ref (cAdr T K c)) n) (some (some (.ref (He.fAd K Dt.at_)))) && (PySem.W.isFn K (.ref (He.fAd K Dt.at_)) && PySem.W.keepIn K (.ref (He.fAd K Dt.at_)))
  | _, _ => false
def mkB (c : Nat) (Kc : Cls) : Bool := match Kc.init with
  | none => true
  | some d => (match T.dt.get d with
    | some Dt => PySem.W.makesIn K (cAdr T K c) && (He.eqO (PySem.W.findIn K (.ref (cAdr T K c)) "__init__") (some (some (.ref (He.fAd K Dt.at_)))) && (PySem.W.isFn K (.ref (He.fAd K Dt.at_)) && PySem.W.keepIn K (.ref (cAdr T K c))))
    | none => false)
def exmB (c : Nat) (Kc : Cls) : Bool := T.P.clss.allB fun k Kk => match Kk.exc with
  | none => true
  | some _ => decide (PySem.W.exmOne K (.ref (cAdr T K c)) (.ref (cAdr T K k)) = some (Kc.mro.any fun x => Nat.beq x k))
end
section
variable {T : Tb} {K : PySem.W.Frag} {h : Heap} {mg : Str → Option Value}
theorem gloB_ok (X : K.In h) (G : h.Ns mainGlobals mg) {x : Str} (c : gloB K x = true) : mg x = some (.ref (He.ga K x)) := PySem.W.mg_of X G (He.eqO_ok c)
theorem kitCB_ok {C : Addr} (c : kitCB K C = true) : KitC K C := by
  obtain ⟨c1, c⟩ := and2 c
  obtain ⟨c2, c⟩ := and2 c
  obtain ⟨c3, c⟩ := and2 c
  obtain ⟨c4, c5⟩ := and2 c
  exact ⟨c1, He.eqO_ok c2, He.eqO_ok c3, of_decide_eq_true c4, of_decide_eq_true c5⟩
theorem clsB_ok {C : Addr} (c : clsB K C = true) : L2.Cls K C := by
  obtain ⟨c1, c⟩ := and2 c
  obtain ⟨c2, c⟩ := and2 c
  obtain ⟨c3, c4⟩ := and2 c
  exact ⟨c1, c2, c3, He.eqO_ok c4⟩
theorem lookN_memV {α : Type} {k : Nat} {v : α} : ∀ {l : List (Nat × α)}, lookN k l = some v → (k, v) ∈ l
  | [], e => by cases e
  | (a, u) :: l, e => by
    unfold lookN at e
    cases hb : Nat.beq a k with
    | true =>
      rw [hb] at e
      cases e
      rw [Nat.eq_of_beq_eq_true hb]
      exact List.mem_cons_self
    | false =>
      rw [hb] at e
      exact List.mem_cons_of_mem _ (lookN_memV e)
end
/-! ### own exceptions -/
def asgsOf (sf : Str) : List Stmt → Option (List (Str × Str))
  | [] => some []
  | .Assign [.Attribute (.Name s _) f _] (.Name v _) _ :: r => (match decide (s = sf), asgsOf sf r with
    | true, some l => some ((f, v) :: l)
    | _, _ => none)
  | _ => none
theorem asgsOf_ok {sf : Str} : ∀ {sts : List Stmt} {fs : List (Str × Str)}, asgsOf sf sts = some fs → FldAsgs sf sts fs
  | [], fs, e => by
    cases e
    exact .nil
  | st :: r, fs, e => by
    unfold asgsOf at e
    split at e
    · rename_i heq; cases heq
    · rename_i heq
      cases heq
      split at e
      · rename_i h1 h2
        cases e
        cases (of_decide_eq_true h1)
        exact .cons (asgsOf_ok h2)
      · cases e
    · cases e
/-- super().__init__('..') -/
def superB : Stmt → Bool
  | .Expr (.Call (.Attribute (.Call (.Name s _) [] [] _) i apos) [.Constant (.str _) _ _] [] cpos) _ => decide (s = "super") && (decide (i = "__init__") && (apos.endLine == cpos.line))
  | _ => false
theorem superB_ok {st : Stmt} (h : superB st = true) : ∃ p0 p1 apos p2 cpos epos msg j, st = .Expr (.Call (.Attribute (.Call (.Name "super" p0) [] [] p1) "__init__" apos) [.Constant (.str msg) j p2] [] cpos) epos ∧ (apos.endLine == cpos.line) = true := by
  unfold superB at h
  split at h
  case h_2 => cases h
  obtain ⟨f1, h⟩ := and2 h
  obtain ⟨f2, f3⟩ := and2 h
  have e4 := of_decide_eq_true f1
  have e5 := of_decide_eq_true f2
  subst e4 e5
  exact ⟨_, _, _, _, _, _, _, _, rfl, f3⟩
def excOB (K : PySem.W.Frag) (C : Addr) : Bool := (match K.lookup C with
  | some ⟨.type t, _, .cls cd, sl⟩ => (match cd.mro, sl.toList with
    | .ref C' :: bm, [_, _, _, _, some (.builtin n), _] => decide (t = "type") && (decide (C' = C) && (decide (n = "ValueError.__new__") && (!cd.hasDel && (cd.hasDict && PySem.HandSPX.refsVE bm))))
    | _, _ => false)
  | _ => false) && (He.eqO (PySem.W.findIn K (.ref C) "__setattr__") (some (some (.builtin "object.__setattr__"))) && (decide (PySem.W.subIn K (.ref C) (.type "BaseException") = some true) && (decide (PySem.W.typeIn K (.ref C) = some (.type "type")) && PySem.W.keepIn K (.ref C))))
theorem excOB_ok {K : PySem.W.Frag} {C : Addr} (h : excOB K C = true) : OexC K C := by
  obtain ⟨h1, h⟩ := and2 h
  obtain ⟨h2, h⟩ := and2 h
  obtain ⟨h3, h⟩ := and2 h
  obtain ⟨h4, h5⟩ := and2 h
  refine ⟨?_, He.eqO_ok h2, of_decide_eq_true h3, of_decide_eq_true h4, h5⟩
  split at h1
  · rename_i t dd cd sl hK
    split at h1
    · rename_i C' bm k0 k1 k2 k3 n k5 hm hs
      obtain ⟨a1, h1⟩ := and2 h1
      obtain ⟨a2, h1⟩ := and2 h1
      obtain ⟨a3, h1⟩ := and2 h1
      obtain ⟨a4, h1⟩ := and2 h1
      obtain ⟨a5, a6⟩ := and2 h1
      obtain ⟨nm, bs, mro, ns, qn, hd, sn, sub, ab, col, del⟩ := cd
      dsimp only at hm a4 a5
      subst hm
      have e4 : del = false := by simpa using a4
      subst e4 a5
      have e1 := of_decide_eq_true a1
      have e2 := of_decide_eq_true a2
      have e3 := of_decide_eq_true a3
      subst e1 e2 e3
      have hsl : sl = #[k0, k1, k2, k3, some (.builtin "ValueError.__new__"), k5] := by
        obtain ⟨l⟩ := sl
        simp only at hs
        rw [hs]
      subst hsl
      exact ⟨nm, qn, ns, bs, bm, sn, sub, ab, col, dd, k0, k1, k2, k3, k5, hK, a6⟩
    · cases h1
  · cases h1
def xiniB (P : Program) (K : PySem.W.Frag) (C : Addr) (fs : List Str) : Bool := match K.lookup (He.ma K C "__init__") with
  | some ⟨_, _, .func ⟨_, qual, ⟨[], args, none, [], _, none, _⟩, .stmts (st0 :: st1 :: sts), scope, g, [(cn, cc)], .none, _, _, _, _, .ref cda, _, b⟩, _⟩ =>
    decide (g = mainGlobals) && (decide (b = builtinsNs) && (decide (cn = "__class__") && (He.eqO (PySem.W.findIn K (.ref C) "__init__") (some (some (.ref (He.ma K C "__init__")))) && (decide (PySem.W.typeIn K (.ref (He.ma K C "__init__")) = some (.type "function")) && (PySem.W.codeIn K (.ref cda) qual && (excOB K C &&
    ((match args with
      | a :: _ => decide (a.arg = "self")
      | [] => false) && ((match K.lookup cda with
      | some ⟨_, _, .fields vs, _⟩ => (match (vs[2]? : Option Value) with
        | some (.str file _) => (P.main.file : Str) == file
        | _ => false)
      | _ => false) && ((match K.lookup cc with
      | some ⟨_, _, .cell (some (.ref C')), _⟩ => decide (C' = C)
      | _ => false) && (decide (PySem.W.mroIn K C (.ref C) = some true) && (He.eqO (PySem.W.ks_superIn K C C "__init__") (some (some (.builtin "ValueError.__init__"))) && (decide (PySem.W.subIn K (.ref C) (.type "ValueError") = some true) && (He.eqO (PySem.W.nsIn K cStatics "thirdparty.any") (some none) && (He.eqO (PySem.W.nsIn K mainGlobals "super") (some none) &&
    (!(P.main.scope.names.lookup ("super" : Str)).isSome && (funB scope && (glB scope "super" && ((match scope.names.lookup ("__class__" : Str) with
      | some .free => true
      | _ => false) && (isLocalB scope "self" && (!scope.isCoroutine && (!scope.isGenerator && ((scope.names.all fun x => match x.2 with
      | .cell => false
      | _ => true) && (decide (args.map (·.arg)).Nodup && ((args.all fun a => isLocalB scope a.arg && dbgB a.arg) && (superB st0 && ((match asgsOf "self" (st1 :: sts) with
      | some fps => decide (args.map (·.arg) = ("self" : Str) :: fps.map (·.2)) && decide (fps.map (·.1) = fs)
      | none => false) && (Nat.ble fs.length 100 && fs.all fun g => noAtB K C g)))))))))))))))))))))))))))
  | _ => false
theorem xiniB_ok {P : Program} {K : PySem.W.Frag} {C : Addr} {fs : List Str} {hp : Heap} {mg : Str → Option Value} (X : K.In hp) (G : hp.Ns mainGlobals mg) (h : xiniB P K C fs = true) : XIni P K mg C fs := by
  unfold xiniB at h
  split at h
  · rename_i oc od name qual args kwd dfl st0 st1 sts scope g cn cc kV doc pm an cda ct b osl hK
    obtain ⟨a1, h⟩ := and2 h
    obtain ⟨a2, h⟩ := and2 h
    obtain ⟨a3, h⟩ := and2 h
    obtain ⟨a4, h⟩ := and2 h
    obtain ⟨a5, h⟩ := and2 h
    obtain ⟨a6, h⟩ := and2 h
    obtain ⟨a7, h⟩ := and2 h
    obtain ⟨b1, h⟩ := and2 h
    obtain ⟨b2, h⟩ := and2 h
    obtain ⟨b3, h⟩ := and2 h
    obtain ⟨b4, h⟩ := and2 h
    obtain ⟨b5, h⟩ := and2 h
    obtain ⟨b6, h⟩ := and2 h
    obtain ⟨b7, h⟩ := and2 h
    obtain ⟨b8, h⟩ := and2 h
    obtain ⟨c1, h⟩ := and2 h
    obtain ⟨c2, h⟩ := and2 h
    obtain ⟨c3, h⟩ := and2 h
    obtain ⟨c4, h⟩ := and2 h
    obtain ⟨c5, h⟩ := and2 h
    obtain ⟨c6, h⟩ := and2 h
    obtain ⟨c7, h⟩ := and2 h
    obtain ⟨c8, h⟩ := and2 h
    obtain ⟨d1, h⟩ := and2 h
    obtain ⟨d2, h⟩ := and2 h
    obtain ⟨d3, h⟩ := and2 h
    obtain ⟨d4, h⟩ := and2 h
    obtain ⟨d5, d6⟩ := and2 h
    have e1 := of_decide_eq_true a1
    have e2 := of_decide_eq_true a2
    have e3 := of_decide_eq_true a3
    subst e1 e2 e3
    obtain ⟨p0, p1, apos, p2, cpos, epos, msg, j, hst, f3⟩ := superB_ok d3
    split at d4
    case h_2 => cases d4
    rename_i fps hfps
    obtain ⟨g1, g2⟩ := and2 d4
    refine ⟨_, cda, cc, scope, oc, od, osl, name, qual, args, kwd, dfl, st0, st1, sts, kV, doc, pm, ct, an, fps, p0, p1, apos, p2, cpos, epos, msg, j, He.eqO_ok a4, of_decide_eq_true a5, hK, a6, ⟨excOB_ok a7, ?_, ?_, ?_, of_decide_eq_true b4, He.eqO_ok b5, of_decide_eq_true b6, He.eqO_ok b7, PySem.W.mg_none_of X G (He.eqO_ok b8), by simpa using c1, funB_ok c2, glB_ok c3, ?_, isLocalB_ok c5⟩, by simpa using c6, by simpa using c7, ?_, of_decide_eq_true d1, of_decide_eq_true g1, ?_, f3, hst, asgsOf_ok hfps, of_decide_eq_true g2, Nat.le_of_ble_eq_true d5, fun q hq => He.eqO_ok (List.all_eq_true.mp d6 q hq)⟩
    · cases args with
      | nil => cases b1
      | cons a as => exact ⟨oc, od, _, osl, a, hK, rfl, of_decide_eq_true b1⟩
    · split at b2
      case h_2 => cases b2
      rename_i vs _ hl
      split at b2
      case h_2 => cases b2
      rename_i file tf hv
      exact ⟨_, _, vs, _, file, tf, hl, hv, b2⟩
    · split at b3
      case h_2 => cases b3
      rename_i C' _ hl
      cases of_decide_eq_true b3
      exact ⟨_, _, _, hl⟩
    · split at c4
      · assumption
      · cases c4
    · intro x hx z
      have := List.all_eq_true.mp c8 x hx
      rw [z] at this
      cases this
    · intro a ha
      obtain ⟨z1, z2⟩ := and2 (List.all_eq_true.mp d2 a ha)
      exact ⟨isLocalB_ok z1, dbgB_ok z2⟩
  · cases h
end Py

/-! The module's facts: defs, tables, all of it. -/
set_option Elab.async false
set_option linter.all false
set_option maxRecDepth 100000
set_option maxHeartbeats 1000000
noncomputable section
namespace Py
open PySem PySem.Spec PyProof.Rows L2
/-! ### defs -/
def scopeB (N ps : List Str) (sc : Scope) : Bool := funB sc && (!sc.isCoroutine && (!sc.isGenerator && ((decide N.Nodup) && (decide (N.take ps.length = ps) && ((ps.all fun x => match sc.names.lookup x with
  | some .local => true
  | some .cell => true
  | _ => false) && sc.names.all fun y => match y.2 with
  | .free => false
  | _ => true)))))
theorem scopeB_ok {N ps : List Str} {sc : Scope} (h : scopeB N ps sc = true) : FnScope N ps sc := by
  obtain ⟨h1, h⟩ := and2 h
  obtain ⟨h2, h⟩ := and2 h
  obtain ⟨h3, h⟩ := and2 h
  obtain ⟨h4, h⟩ := and2 h
  obtain ⟨h5, h⟩ := and2 h
  obtain ⟨h6, h7⟩ := and2 h
  refine ⟨funB_ok h1, by simpa using h2, by simpa using h3, of_decide_eq_true h4, of_decide_eq_true h5, fun x hx => ?_, fun y hy z => ?_⟩
  · have := List.all_eq_true.mp h6 x hx
    split at this
    · rename_i e; exact .inl e
    · rename_i e; exact .inr e
    · cases this
  · have := List.all_eq_true.mp h7 y hy
    rw [z] at this
    cases this
def plainPB (p : Arguments) (ps : List Str) : Bool := match p with
  | ⟨[], args, none, [], _, none, _⟩ => decide (args.map (·.arg) = ps)
  | _ => false
theorem plainPB_ok {p : Arguments} {ps : List Str} (h : plainPB p ps = true) : plainPs p ps := by
  unfold plainPB at h
  split at h
  · exact ⟨_, _, _, rfl, of_decide_eq_true h⟩
  · cases h
def starPB (p : Arguments) (ps : List Str) : Bool := match p with
  | ⟨[], [], some va, [], _, none, _⟩ => decide (ps = [va.arg])
  | _ => false
theorem starPB_ok {p : Arguments} {ps : List Str} (h : starPB p ps = true) : starPs p ps := by
  unfold starPB at h
  split at h
  · exact ⟨_, _, _, rfl, of_decide_eq_true h⟩
  · cases h
def DT.defD (Dt : DT) : He.DefD := ⟨Dt.at_, Dt.name, Dt.qual, Dt.params, Dt.body, Dt.scope, Dt.dfl, []⟩
/-- the text alone -/
def defTB (T : Tb) (D : Dfn) (Dt : DT) : Bool := scopeB Dt.N Dt.ps Dt.scope && (Nat.beq D.ns Dt.N.length && (cellsB Dt.N Dt.scope D.cells && ((match D.star with
  | true => starPB Dt.params Dt.ps && D.sh.isEmpty
  | false => plainPB Dt.params Dt.ps && (namesB T.an D.ps Dt.ps && D.sh.all fun q => shB D q.1 q.2)) &&
  chkSs T.bs 400 ⟨Dt.N, Dt.scope, true, true, Dt.lb⟩ D.body Dt.body)))
/-- .. and the module -/
def defKB (T : Tb) (K : PySem.W.Frag) (D : Dfn) (Dt : DT) : Bool := Dt.defD.ok K && (D.sh.isEmpty || dflA T.an D.dfl (Dt.ps.drop (Dt.ps.length - Dt.dfl.length)) (Dt.dfl.map (He.Dv.v K)))
def lamQ (q : Str) : Str := q ++ ".<locals>." ++ "<lambda>"
/-- the defs in which lambdas are made -/
def tfs (T : Tb) : List DT := (T.dt.l.map (·.2)).filter (·.lb)
def tlOf (T : Tb) (K : PySem.W.Frag) : List (Addr × Str) := (tfs T).map fun Dt => ((He.cT K Dt.at_).2, lamQ Dt.qual)
/-- what the module says of the whole text -/
def factsB (T : Tb) (P : Program) (K : PySem.W.Frag) : Bool := (T.fr.all fun x => He.eqO (PySem.W.nsIn K mainGlobals x) (some none)) && (globB T K && ((T.P.clss.allB fun c Kc => kitB T K c Kc && (fldsB T K c Kc && (conB T K c Kc && (match Kc.exc with
  | none => clsB K (cAdr T K c) && (methB T K c Kc && mkB T K c Kc)
  | some fs => xfB K (cAdr T K c) && (exmB T K c Kc && (match fs with
    | [] => true
    | f :: fs => xiniB P K (cAdr T K c) ((f :: fs).map fun i => (T.an[i]?).getD "") && namesB T.an (f :: fs) ((f :: fs).map fun i => (T.an[i]?).getD ""))))))) &&
  ((T.P.dfns.allB fun d D => match T.dt.get d with
    | some Dt => defKB T K D Dt
    | none => true) && decide ((tlOf T K).map (·.1)).Nodup)))
def textB (T : Tb) : Bool := decide T.an.Nodup && T.P.dfns.allB fun d D => match T.dt.get d with
  | some Dt => defTB T D Dt
  | none => true
section
variable {T : Tb} {K : PySem.W.Frag} {P : Program} {mg : Str → Option Value} {base h : Heap}
theorem nodup_fst {α β : Type} : ∀ {l : List (α × β)}, (l.map (·.1)).Nodup → ∀ p ∈ l, ∀ q ∈ l, p.1 = q.1 → p = q
  | [], _, p, hp, _, _, _ => by cases hp
  | a :: l, nd, p, hp, q, hq, e => by
    obtain ⟨n1, n2⟩ := List.nodup_cons.mp (show (a.1 :: l.map (·.1)).Nodup from nd)
    rcases List.mem_cons.mp hp with hp | hp
    · rcases List.mem_cons.mp hq with hq | hq
      · rw [hp, hq]
      · exact absurd (by rw [← hp, e]; exact List.mem_map_of_mem hq) n1
    · rcases List.mem_cons.mp hq with hq | hq
      · exact absurd (by rw [← hq, ← e]; exact List.mem_map_of_mem hp) n1
      · exact nodup_fst n2 p hp q hq e
/-- what is known of the written part -/
structure Says (T : Tb) (P : Program) (K : PySem.W.Frag) : Prop where
  facts : factsB T P K = true
  fns : ∀ q ∈ T.dt.l, He.fnW K q.2.at_ = q.2.defD.val
theorem tx_ok (hT : textB T = true) (S : Says T P K) (hlt : ∀ d L, T.lt d L ↔ LamOk T.bs d L) (X : K.In h) (G : h.Ns mainGlobals mg) (TB : ∀ Dt ∈ tfs T, LamX.TabB base mg (He.cT K Dt.at_).1 (He.cT K Dt.at_).2) : Tx T K (tlOf T K) P mg base := by
  obtain ⟨t1, t2⟩ := and2 hT
  have nan := of_decide_eq_true t1
  obtain ⟨f1, f⟩ := and2 S.facts
  obtain ⟨f2, f⟩ := and2 f
  obtain ⟨f3, f⟩ := and2 f
  obtain ⟨f4, f5⟩ := and2 f
  have hglob := fun {g v} (e : T.P.globs.get g = some v) => Tr.allB_get f2 e
  have hcls := fun {c Kc} (e : T.P.clss.get c = some Kc) => Tr.allB_get f3 e
  refine ⟨⟨nan, fun x hx => PySem.W.mg_none_of X G (He.eqO_ok (List.all_eq_true.mp f1 x hx)), fun g v e hv => ?_, fun g c e => ?_, fun c Kc e => ?_, fun c Kc i e hi => ?_, fun c Kc i v e hl hv => ?_, fun c Kc e hx => ?_, fun c Kc fs e hx => ?_, fun c Kc fs k Kk fs' e hx e2 hx2 => ?_⟩,
    ⟨fun g d e => ?_, fun c Kc m d e hx hm => ?_, fun c Kc d e hx hi => ?_⟩, fun c Kc i fs e hx => ?_, fun d D Dt e1 e2 => ?_, hlt⟩
  · have z := hglob e
    dsimp only at z
    rw [hv] at z
    have z : (match T.gn[g]? with
      | some x => (match PySem.W.nsIn K mainGlobals x with
        | some (some u) => He.relB (flatV' v) u
        | _ => false)
      | none => false) = true := z
    split at z
    · rename_i x hx
      split at z
      · rename_i u hu
        exact ⟨x, u, hx, PySem.W.mg_of X G hu, He.relB_ok z⟩
      · cases z
    · cases z
  · have z := hglob e
    dsimp only at z
    split at z
    · rename_i x y hx hy
      obtain ⟨z1, z2⟩ := and2 z
      cases (of_decide_eq_true z1)
      exact ⟨x, hx, hy, gloB_ok X G z2⟩
    · cases z
  · obtain ⟨z, _⟩ := and2 (hcls e)
    obtain ⟨z1, z⟩ := and2 z
    obtain ⟨z2, z3⟩ := and2 z
    refine ⟨kitCB_ok z1, fun t => ?_, fun c' Kc' e' => of_decide_eq_true (Tr.allB_get z3 e')⟩
    obtain ⟨a, b⟩ := and2 (List.all_eq_true.mp z2 t (allBT_all t))
    exact ⟨of_decide_eq_true a, of_decide_eq_true b⟩
  · obtain ⟨_, z⟩ := and2 (hcls e)
    obtain ⟨z, _⟩ := and2 z
    obtain ⟨j, hj, ej⟩ := List.any_eq_true.mp hi
    have ej := Nat.eq_of_beq_eq_true ej
    rw [ej] at hj
    have := List.all_eq_true.mp z i hj
    split at this
    · rename_i n hn
      exact ⟨n, hn, He.eqO_ok this⟩
    · cases this
  · obtain ⟨_, z⟩ := and2 (hcls e)
    obtain ⟨_, z⟩ := and2 z
    obtain ⟨z, _⟩ := and2 z
    have hm := lookN_memV hl
    rcases Bool.or_eq_true_iff.mp z with z | z
    · cases q : Kc.cons with
      | nil => rw [q] at hm; cases hm
      | cons _ _ => rw [q] at z; cases z
    · obtain ⟨z1, z⟩ := and2 z
      obtain ⟨z2, z3⟩ := and2 z
      have y := List.all_eq_true.mp z3 _ hm
      dsimp only at y
      rw [hv] at y
      have y : (match T.an[i]? with
        | some n => (match PySem.W.findCls K (.ref (cAdr T K c)) (.type "type") n with
          | some (.val u) => He.relB (flatV' v) u
          | _ => false)
        | none => false) = true := y
      split at y
      · rename_i n hn
        split at y
        · rename_i u hu
          exact ⟨n, u, hn, ⟨z1, He.eqO_ok z2⟩, ⟨hu, He.relB_ok y⟩⟩
        · cases y
      · cases y
  · obtain ⟨_, z⟩ := and2 (hcls e)
    obtain ⟨_, z⟩ := and2 z
    obtain ⟨_, z⟩ := and2 z
    rw [hx] at z
    exact clsB_ok (and2 z).1
  · obtain ⟨_, z⟩ := and2 (hcls e)
    obtain ⟨_, z⟩ := and2 z
    obtain ⟨_, z⟩ := and2 z
    rw [hx] at z
    exact xfB_ok (and2 z).1
  · obtain ⟨_, z⟩ := and2 (hcls e)
    obtain ⟨_, z⟩ := and2 z
    obtain ⟨_, z⟩ := and2 z
    rw [hx] at z
    obtain ⟨z, _⟩ := and2 (and2 z).2
    have y := Tr.allB_get z e2
    rw [hx2] at y
    exact of_decide_eq_true y
  · have z := hglob e
    dsimp only at z
    split at z
    · rename_i x Dt hx hd
      obtain ⟨z1, z⟩ := and2 z
      obtain ⟨z2, z3⟩ := and2 z
      exact ⟨Dt, x, hd, hx, of_decide_eq_true z1, gloB_ok X G z2, z3⟩
    · cases z
  · obtain ⟨_, z⟩ := and2 (hcls e)
    obtain ⟨_, z⟩ := and2 z
    obtain ⟨_, z⟩ := and2 z
    rw [hx] at z
    obtain ⟨z, _⟩ := and2 (and2 z).2
    have y := List.all_eq_true.mp z _ (lookN_memV hm)
    dsimp only at y
    split at y
    · rename_i Dt n hd hn
      obtain ⟨y1, y⟩ := and2 y
      obtain ⟨y2, y3⟩ := and2 y
      exact ⟨Dt, n, hd, hn, He.eqO_ok y1, y2, y3⟩
    · cases y
  · obtain ⟨_, z⟩ := and2 (hcls e)
    obtain ⟨_, z⟩ := and2 z
    obtain ⟨_, z⟩ := and2 z
    rw [hx] at z
    obtain ⟨_, z⟩ := and2 (and2 z).2
    unfold mkB at z
    rw [hi] at z
    dsimp only at z
    split at z
    · rename_i Dt hd
      obtain ⟨y1, y⟩ := and2 z
      obtain ⟨y2, y⟩ := and2 y
      obtain ⟨y3, y4⟩ := and2 y
      exact ⟨Dt, hd, y1, He.eqO_ok y2, y3, y4⟩
    · cases z
  · obtain ⟨_, z⟩ := and2 (hcls e)
    obtain ⟨_, z⟩ := and2 z
    obtain ⟨_, z⟩ := and2 z
    rw [hx] at z
    obtain ⟨_, z⟩ := and2 (and2 z).2
    obtain ⟨z1, z2⟩ := and2 z
    exact ⟨_, z2, xiniB_ok X G z1⟩
  · have z := Tr.allB_get f4 e1
    have y := Tr.allB_get t2 e1
    rw [e2] at z y
    obtain ⟨z1, z2⟩ := and2 z
    obtain ⟨y1, y⟩ := and2 y
    obtain ⟨y2, y⟩ := and2 y
    obtain ⟨y3, y⟩ := and2 y
    obtain ⟨y4, y5⟩ := and2 y
    have hmem : (d, Dt) ∈ T.dt.l := lookN_memV e2
    obtain ⟨fd, FD⟩ := He.DefD.funD (S.fns _ hmem) z1
    refine ⟨fd, 400, ⟨⟨_, _, FD⟩, scopeB_ok y1, Nat.eq_of_beq_eq_true y2, y3, fun hs => ?_, fun hs => ?_, fun q hq => ?_, fun hl => ?_⟩, y5⟩
    · rw [hs] at y4
      obtain ⟨p1, p⟩ := and2 y4
      obtain ⟨p2, p3⟩ := and2 p
      exact ⟨plainPB_ok p1, names_len p2⟩
    · rw [hs] at y4
      exact starPB_ok (and2 y4).1
    · cases hs : D.star with
      | true =>
        rw [hs] at y4
        have := (and2 y4).2
        cases hsh : D.sh with
        | nil => rw [hsh] at hq; cases hq
        | cons _ _ => rw [hsh] at this; cases this
      | false =>
        rw [hs] at y4
        obtain ⟨p1, p⟩ := and2 y4
        obtain ⟨p2, p3⟩ := and2 p
        have hd : dflA T.an D.dfl (Dt.ps.drop (Dt.ps.length - (Dt.dfl.map (He.Dv.v K)).length)) (Dt.dfl.map (He.Dv.v K)) = true := by
          rw [List.length_map]
          rcases Bool.or_eq_true_iff.mp z2 with z | z
          · cases hsh : D.sh with
            | nil => rw [hsh] at hq; cases hq
            | cons _ _ => rw [hsh] at z; cases z
          · exact z
        exact sh_ok FD (plainPB_ok p1) p2 nan hd (List.all_eq_true.mp p3 q hq)
    · have hmt : Dt ∈ tfs T := List.mem_filter.mpr ⟨List.mem_map.mpr ⟨(d, Dt), hmem, rfl⟩, hl⟩
      obtain ⟨oc, od, dV, kV, doc, pm, an, cdv, ct, osl, efd, lk, hcd, _, _⟩ := FD.ex
      obtain ⟨c, hc⟩ := He.codeIn_ref hcd
      have e3 : fd.code = .ref c := by rw [efd]; exact hc
      have e4 : He.codeOf K Dt.at_ = c := He.codeOf_eq lk e3
      refine ⟨(He.cT K Dt.at_).1, (He.cT K Dt.at_).2, by rw [e3, ← e4]; rfl, TB Dt hmt, List.mem_map.mpr ⟨Dt, hmt, rfl⟩, fun p hp e5 => ?_⟩
      have hme : ((He.cT K Dt.at_).2, lamQ Dt.qual) ∈ tlOf T K := List.mem_map.mpr ⟨Dt, hmt, rfl⟩
      have := nodup_fst (of_decide_eq_true f5) p hp _ hme e5
      rw [this]
      rfl
end
end Py

/-! The head's hook; the law's call. -/
set_option Elab.async false
set_option linter.all false
set_option maxRecDepth 100000
set_option maxHeartbeats 2000000
noncomputable section
namespace Py
open PySem PySem.Spec PyProof.Rows L2
/-! ### the hook -/
def reach (n : Nat) (g : Addr → Option Obj) : List Addr := cStatics :: He.asD g n
def part_ (n : Nat) (g : Addr → Option Obj) : PySem.W.Frag := He.frT g (reach n g)
def tfOf (T : Tb) : List He.Defn := (tfs T).map (·.at_)
abbrev ObT : Type := Bool × List He.FnW
def seen (n : Nat) (T : Tb) (P : Program) (g : Addr → Option Obj) : ObT := (factsB T P (part_ n g) && He.tabsB g (tfOf T) (part_ n g), T.dt.l.map fun q => He.fnW (part_ n g) q.2.at_)
def want (T : Tb) : ObT := (true, T.dt.l.map fun q => q.2.defD.val)
structure Tells (T : Tb) (P : Program) (h : Heap) (K : PySem.W.Frag) : Prop where
  says : Says T P K
  hd : ∀ p ∈ tfOf T, PySem.W.codeHdIn K (He.cT K p).1 (He.cT K p).2 = true
  out : ∀ p ∈ tfOf T, K.lookup (He.cT K p).2 = none
  empty : ∀ p ∈ tfOf T, h.get? (He.cT K p).2 = some { cls := .none, data := .fields #[] }
theorem tells_of {n : Nat} {T : Tb} {P : Program} {h : Heap} (e : seen n T P h.get? = want T) : Tells T P h (part_ n h.get?) := by
  obtain ⟨e1, e2⟩ := Prod.mk.inj (show (_, _) = (_, _) from e)
  obtain ⟨h1, h2⟩ := and2 e1
  refine ⟨⟨h1, fun q hq => List.map_inj_left.mp e2 q hq⟩, fun p hp => ?_, fun p hp => ?_, fun p hp => ?_⟩
  all_goals
    obtain ⟨c1, c2⟩ := and2 (List.all_eq_true.mp h2 p hp)
    split at c2
    case h_2 => cases c2
    rename_i o ho
  · exact c1
  · exact He.frT_none ho c2
  · rw [ho, He.emptyTab_eq c2]
def hookP (n : Nat) (T : Tb) (P : Program) : PySem.W.Hook where
  α := ObT
  obs := fun s => seen n T P s.heap.get?
  val := fun _ => want T
  says := fun _ h => ∃ K : PySem.W.Frag, K.In h ∧ Tells T P h K
  of := fun _ _ e => ⟨_, He.frT_in, tells_of e⟩
  keeps := fun _ _ _ ⟨K, hK, c⟩ k => ⟨K, hK.keeps k, ⟨c.says, c.hd, c.out, fun p hp => k _ _ (c.empty p hp)⟩⟩
def obP (n : Nat) (T : Tb) (P : Program) (s : PySem.W.SharedT) : ObT := seen n T P (HandSHeadRun.getT s)
theorem obP_eq (n : Nat) (T : Tb) (P : Program) (s : PySem.W.SharedT) : obP n T P s = (hookP n T P).obs s.abs := by
  have e : HandSHeadRun.getT s = s.abs.heap.get? := funext (HandSHeadRun.getT_eq s)
  show seen n T P (HandSHeadRun.getT s) = seen n T P s.abs.heap.get?
  rw [e]
/-! ### the law's call -/
/-- what the law's def does with the script -/
def LawDoes (T : Tb) (K : PySem.W.Frag) (P : Program) (w : World) (mg : Str → Option Value) (base : Heap) (k n : Nat) (fa : Addr) : Prop :=
  ∀ (s : Shared) (H : Hp) (a : Addr) (ns : List Int), ns.length ≤ n → Room k callerA → Env0 P w K mg base callerA [] s H → LamX.Tabs (tlOf T K) H → ((∃ o, H a = some (.frz o (.lst (ns.map V.int)))) ∨ SqL K (fun _ => none) a (ns.map V.int)) →
    codeAny (model P w) callerA (.call (.ref fa) ⟨[.ref a], []⟩) (L2.CR (L2.CX P w) [] P w H s (fun v _ => v = .bl true) fun _ _ _ => False) s
section
variable {T : Tb} {K : PySem.W.Frag} {P : Program} {w : World} {mg mb : Str → Option Value} {s : Shared} {fa a : Addr} {vs : List Value} {ns : List Int} {n k : Nat}
/-- an abstract heap of the script and the tables alone -/
structure Tiny (T : Tb) (K : PySem.W.Frag) (H : Hp) (a : Addr) (ns : List Int) (g : Heap) : Prop where
  tab : ∀ p ∈ tfOf T, H (He.cT K p).2 = some (.tbl #[])
  all : ∀ b, H b = none ∨ (∃ p ∈ tfOf T, b = (He.cT K p).2) ∨ (b = a ∧ K.lookup a = none ∧ ∃ o, H b = some (.frz o (.lst (ns.map V.int))))
  scr : (∃ o, H a = some (.frz o (.lst (ns.map V.int)))) ∨ SqL K (fun _ => none) a (ns.map V.int)
theorem law_end (C : Tells T P s.heap K) (KX : K.In s.heap) (hns : s.heap.Ns mainGlobals mg) (hb : s.heap.Ns builtinsNs mb) (hbb : ∀ x : Str, x ≠ "__name__" → mb x = bootBuiltins x) (hlim : s.heap.NoLimit) (hg : s.gens = #[])
    (hbm : ∃ (bm : Addr) (ob : Obj), mg "__builtins__" = some (.ref bm) ∧ bm ≠ builtinsNs ∧ s.heap.get? bm = some ob ∧ ob.cls = .type "module" ∧ ob.dict = some builtinsNs ∧ ob.data = .plain)
    (ha : s.heap.get? a = some { cls := .type "list", data := .seq vs.toArray }) (hi : IntsAre vs ns) (hl : ns.length ≤ n) (hz : n ≤ sizeLine) (hr : Room k callerA)
    (F : ∀ base : Heap, K.In base → base.Ns mainGlobals mg → (∀ Dt ∈ tfs T, LamX.TabB base mg (He.cT K Dt.at_).1 (He.cT K Dt.at_).2) → LawDoes T K P w mg base k n fa) :
    codeAny (model P w) callerA (.call (.ref fa) ⟨[.ref a], []⟩) (fun r s' => r = .ok (.ret (.bool true)) ∧ OldK s.heap s'.heap ∧ s'.os = s.os ∧ AllBare s'.gens) s := by
  have rv := vals_ints hi
  have lenV := hi.length
  have hsz : vs.length ≤ sizeLine := by omega
  -- the tables are no lists, no dicts, no modules
  have fromTiny : ∀ H : Hp, Tiny T K H a ns s.heap → HOk P w H s.heap → codeAny (model P w) callerA (.call (.ref fa) ⟨[.ref a], []⟩) (fun r s' => r = .ok (.ret (.bool true)) ∧ OldK s.heap s'.heap ∧ s'.os = s.os ∧ AllBare s'.gens) s := by
    intro H Y hok
    -- what stands elsewhere is not tracked
    have free : ∀ {b : Addr} {o : Obj}, s.heap.get? b = some o → (b = a → K.lookup a = none → False) → o.data ≠ .fields #[] → H b = none := fun {b o} e h1 h2 => by
      rcases Y.all b with z | ⟨p, hp, rfl⟩ | ⟨z1, z2, _⟩
      · exact z
      · rw [C.empty p hp] at e
        cases e
        exact absurd rfl h2
      · exact (h1 z1 z2).elim
    have dct : ∀ {b : Addr} {o : Obj} {es : Array DictEntry} {ep : Nat}, s.heap.get? b = some o → o.data = .dict es ep → H b = none := fun {b o es ep} e d => free e (fun z _ => by
      rw [z, ha] at e
      cases e
      cases d) fun z => by rw [d] at z; cases z
    have hid := fun {b : Addr} {o : Obj} (e : s.heap.get? b = some o) (q : H b = none) => (hidT_get e q : (hidT s.heap H).get? b = some o)
    have names := fun {b : Addr} {m : Str → Option Value} (z : s.heap.Ns b m) => (show (hidT s.heap H).Ns b m from let ⟨o, es, ep, e, d, q⟩ := z; ⟨o, es, ep, hid e (dct e d), d, q⟩)
    have KB : K.In (hidT s.heap H) := fun b o e => hid (KX b o e) (by
      rcases Y.all b with z | ⟨p, hp, rfl⟩ | ⟨z1, z2, _⟩
      · exact z
      · rw [C.out p hp] at e; cases e
      · rw [z1, z2] at e; cases e)
    have MB : L2.Mod K mg (hidT s.heap H) := ⟨KB, names hns, ⟨mb, names hb, hbb⟩, let ⟨mc, q1, q2⟩ := hlim; ⟨mc, names q1, q2⟩⟩
    have TB : ∀ Dt ∈ tfs T, LamX.TabB (hidT s.heap H) mg (He.cT K Dt.at_).1 (He.cT K Dt.at_).2 := fun Dt hD => by
      have hp : Dt.at_ ∈ tfOf T := List.mem_map_of_mem hD
      have hT := C.empty _ hp
      refine ⟨?_, ?_, fun z => ?_⟩
      · obtain ⟨o, us, file, tf, flags, tg, inF, text, tt, e1, r1, r2, r3, rest⟩ := PySem.W.codeHd_of_K KX (C.hd _ hp)
        refine ⟨o, us, file, tf, flags, tg, inF, text, tt, hid e1 (free e1 (fun z _ => ?_) fun z => ?_), r1, r2, r3, rest⟩
        · rw [z, ha] at e1
          cases e1
          cases r2
        · rw [r2] at z
          cases z
          simp at r3
      · obtain ⟨bm, ob, b1, b2, b3, b4, b5, b6⟩ := hbm
        refine ⟨bm, ob, b1, b2, fun q => ?_, fun q => ?_, hid b3 (free b3 (fun z _ => ?_) fun z => ?_), b4, b5, b6⟩
        · obtain ⟨o, es, ep, e, hd, _⟩ := hns
          rw [q, e] at b3
          cases b3
          rw [hd] at b6
          cases b6
        · rw [q, hT] at b3
          cases b3
          cases b6
        · rw [z, ha] at b3
          cases b3
          cases b6
        · rw [b6] at z
          cases z
      · obtain ⟨o, es, ep, e, hd, _⟩ := hns
        rw [z, hT] at e
        cases e
        cases hd
    have e0 : Env0 P w K mg (hidT s.heap H) callerA [] s H := ⟨rfl, MB, fun b o e => of_hidT e, Nat.le_of_eq (hidT_size _ _), True.intro, fun b z => by simp [frs] at z, hok, .of_eq hg⟩
    have tabs : LamX.Tabs (tlOf T K) H := fun p hp => by
      obtain ⟨Dt, hD, rfl⟩ := List.mem_map.mp hp
      exact LamX.TabS.nil (Y.tab _ (List.mem_map_of_mem hD))
    refine codeAny_mono (F _ KB (names hns) TB s H a ns hl hr e0 tabs Y.scr) fun r s' q => ?_
    cases r with
    | error er =>
      obtain ⟨_, _, _, _, _, _, _, _, _, _, _, _, z⟩ := q
      exact z.elim
    | ok fl =>
    cases fl with
    | next => exact False.elim q
    | brk => exact False.elim q
    | cont => exact False.elim q
    | ret u =>
      obtain ⟨v, H', os, bare, un, hok', ru, hv⟩ := q
      have hv : v = .bl true := hv
      subst hv
      obtain rfl : u = Value.bool true := ru
      have stay : ∀ b o, (∀ p ∈ tfOf T, b ≠ (He.cT K p).2) → s.heap.get? b = some o → s'.heap.get? b = some o := fun b o nb e => by
        rcases Y.all b with z | ⟨p, hp, z⟩ | ⟨_, _, oz, z⟩
        · exact un.keep b o e z (by simp [frs]) (by simp)
        · exact absurd z (nb p hp)
        · obtain ⟨q1, _⟩ := hok b _ z
          obtain ⟨q2, _⟩ := hok' b _ (un.frzs b oz _ z)
          rw [e] at q1
          cases q1
          exact q2
      have more : ∀ p ∈ tfOf T, ∃ m : Array Value, s'.heap.get? (He.cT K p).2 = some { cls := .none, data := .fields m } := fun p hp => by
        obtain ⟨m, z⟩ := un.tbls _ #[] (Y.tab p hp)
        exact ⟨_, hok' _ _ z⟩
      have isTab : ∀ b, (∃ p ∈ tfOf T, b = (He.cT K p).2) ∨ ∀ p ∈ tfOf T, b ≠ (He.cT K p).2 := fun b => by
        by_cases z : ∃ p ∈ tfOf T, b = (He.cT K p).2
        · exact .inl z
        · exact .inr fun p hp q => z ⟨p, hp, q⟩
      refine ⟨rfl, ⟨fun b o e => ?_, fun b o e => ?_⟩, os, bare⟩
      · rcases isTab b with ⟨p, hp, rfl⟩ | z
        · obtain ⟨m, hm⟩ := more p hp
          rw [C.empty p hp] at e
          cases e
          exact .inr (.inl ⟨((PySem.W.codeHd_of_K KX (C.hd p hp)).tab (C.empty p hp)).isCodeTable, rfl, #[], m, rfl, by rw [Array.empty_append]; exact hm⟩)
        · exact .inl (stay b o z e)
      · rcases isTab b with ⟨p, hp, rfl⟩ | z
        · obtain ⟨m, hm⟩ := more p hp
          exact ⟨_, hm⟩
        · exact ⟨o, stay b o z e⟩
  -- the script stands in the written part, or is frozen
  have notTab : ∀ p ∈ tfOf T, (He.cT K p).2 ≠ a := fun p hp z => by
    have := C.empty p hp
    rw [z, ha] at this
    cases this
  cases hk : K.lookup a with
  | some o =>
    have e := KX a o hk
    rw [ha] at e
    cases e
    have dec : ∀ b, Decidable (∃ p ∈ tfOf T, b = (He.cT K p).2) := fun b => Classical.propDecidable _
    refine fromTiny (fun b => if ∃ p ∈ tfOf T, b = (He.cT K p).2 then some (.tbl #[]) else none) ⟨fun p hp => if_pos ⟨p, hp, rfl⟩, fun b => ?_, .inr (.inr ⟨_, vs.toArray, _, hk, rfl, rfl, rfl, by simpa using hsz, by simpa using rv⟩)⟩ fun b u z => ?_
    · by_cases q : ∃ p ∈ tfOf T, b = (He.cT K p).2
      · exact .inr (.inl q)
      · exact .inl (if_neg q)
    · by_cases q : ∃ p ∈ tfOf T, b = (He.cT K p).2
      · have z := (if_pos q).symm.trans z
        cases z
        obtain ⟨p, hp, rfl⟩ := q
        exact C.empty p hp
      · have z := (if_neg q).symm.trans z
        cases z
  | none =>
    have dec : ∀ b, Decidable (∃ p ∈ tfOf T, b = (He.cT K p).2) := fun b => Classical.propDecidable _
    refine fromTiny (fun b => if b = a then some (.frz { cls := .type "list", data := .seq vs.toArray } (.lst (ns.map V.int))) else if ∃ p ∈ tfOf T, b = (He.cT K p).2 then some (.tbl #[]) else none) ⟨fun p hp => ?_, fun b => ?_, .inl ⟨_, if_pos rfl⟩⟩ fun b u z => ?_
    · exact (if_neg (notTab p hp)).trans (if_pos ⟨p, hp, rfl⟩)
    · by_cases qa : b = a
      · exact .inr (.inr ⟨qa, hk, _, if_pos qa⟩)
      · by_cases q : ∃ p ∈ tfOf T, b = (He.cT K p).2
        · exact .inr (.inl q)
        · exact .inl ((if_neg qa).trans (if_neg q))
    · by_cases qa : b = a
      · have z := (if_pos qa).symm.trans z
        cases z
        rw [qa]
        exact ⟨ha, by rw [List.length_map]; omega, vs, _, rv, ha⟩
      · have z := (if_neg qa).symm.trans z
        by_cases q : ∃ p ∈ tfOf T, b = (He.cT K p).2
        · have z := (if_pos q).symm.trans z
          cases z
          obtain ⟨p, hp, rfl⟩ := q
          exact C.empty p hp
        · have z := (if_neg q).symm.trans z
          cases z
/-- the law holds, its def doing what it should -/
theorem walk_end {l : PySem.W.OpenLaw} {q : Program} {loose : List Str} {XP : (Str → Option Value) → Heap → Prop} {d : DefRec} {m : Nat} (hn : l.most = some n) (hz : n ≤ sizeLine) (hdf : d.params.defaults = []) (hr : Room k callerA)
    (F : ∀ (w : World) (K : PySem.W.Frag) (mg : Str → Option Value) (fa : Addr) (h base : Heap), K.In h → h.Ns mainGlobals mg → Tells T l.prog h K → mg d.name = some (.ref fa) → K.In base → base.Ns mainGlobals mg → (∀ Dt ∈ tfs T, LamX.TabB base mg (He.cT K Dt.at_).1 (He.cT K Dt.at_).2) → LawDoes T K l.prog w mg base k n fa) :
    PySem.W.WalkO q loose XP (hookP m T l.prog).says l.row.toRowW d [] (fun f vs => PySem.call f vs) := by
  refine Att.attach_callB hn hdf fun w s₀ s₁ mg mb fa o pm cd doc a vs ns G Y ho hd hcd hmg hobj hints hlen hbits hg => ?_
  obtain ⟨K, KX, C⟩ := Y
  exact law_end C KX G.T.g G.T.b G.T.builtins G.T.nolimit hg G.T.bmain hobj hints hlen hz hr fun base b1 b2 b3 => F w K mg fa _ base KX G.T.g C hmg b1 b2 b3
end
end Py

/-! A def whose body is read by hand and which answers True. -/
set_option Elab.async false
set_option linter.all false
set_option maxRecDepth 100000
set_option maxHeartbeats 1000000
noncomputable section
namespace Py
open PySem PySem.Spec PyProof.Rows L2
abbrev yesD (tl : List (Addr × Str)) : Ends2 := ⟨fun _ _ => False, fun y _ H => y = .bl true ∧ LamX.Tabs tl H, fun _ _ => False, fun _ _ => False⟩
section
variable {T : Tb} {tl : List (Addr × Str)} {K : PySem.W.Frag} {base : Heap} {P : Program} {w : World} {mg : Str → Option Value}
theorem run_yes {k : Nat} {Dt : DT} {Df : Dfn} {fd : FuncData} {lb : Bool} (G : DefOk T K mg base tl Df Dt lb fd) (fx : Fx T K mg) (hst : Df.star = false) {A : Around} {outer : List Env} {s : Shared} {H : Hp} {us : List Value} {vs : List V} {xs : List PV} {ρ : List Addr} {h : OHeap}
    (hr : Room (k + 1) A) (hgd : A.guards = some []) (e0 : Env0 P w K mg base A outer s H) (r : Vals vs us) (hln : us.length = Dt.ps.length) (R : HR T K tl [] ρ h H) (rx : VRs T K ρ H xs vs)
    (hbody : ∀ (X : Cx) (W : WX) (own : List Nat), X.prog = P → X.w = w → X.K = K → X.mg = mg → X.base = base → CxOk T tl k X W Dt.N Dt.scope true true lb → ∀ (ρ : List Addr) (H : Hp) (σ : L2.St),
      HR T X.K tl own ρ (defStart Df.cells (xs.map .v ++ List.replicate (Df.ns - xs.length) .n) h).2 H → EnvR T X own ρ (defStart Df.cells (xs.map .v ++ List.replicate (Df.ns - xs.length) .n) h).2 H (defStart Df.cells (xs.map .v ++ List.replicate (Df.ns - xs.length) .n) h).1 σ → ∃ t, QSs X Dt.body t ∧ t (yesD tl) σ H) :
    codeAny (model P w) A (.call (.ref (He.fAd K Dt.at_)) ⟨us, []⟩) (L2.CR (L2.CX P w) outer P w H s (fun y H => y = .bl true ∧ LamX.Tabs tl H) fun _ _ _ => False) s := by
  obtain ⟨dvs, kws, Fd⟩ := G.fn
  obtain ⟨⟨args, kwd, dfl, hp, hps⟩, hlen⟩ := G.pl hst
  have S := G.sc
  obtain ⟨oc, od, dV, kV, doc, pm, an, cdv, ct, osl, efd, lk, hcd, hD, _⟩ := Fd.ex
  have hlam := G.lam
  rw [efd] at lk hlam
  have KX : K.In s.heap := e0.mod.kin.keeps fun b o e => (e0.bs b o e).1
  refine codeAny_call_function hr.depth (KX _ _ lk) rfl S.co S.gen rfl (PySem.W.codeRec_of KX hcd) ?_
  have hl2 : us.length = args.length := by rw [hln, ← hps]; simp
  rw [hp]
  rw [bind_pos hl2 (by rw [hps]; have := S.nd; rw [← S.pre]; exact this.sublist (List.take_sublist _ _)), hps]
  refine PySem.W.Looks.here (seqIt (R := fun _ => True) (M := model P w) KX hD (fun _ => rfl) (.of_pure rfl)) ?_
  have hvl : vs.length = Dt.ps.length := by rw [r.length, hln]
  have hkind : ∀ y ∈ Dt.ps.zip us, Dt.scope.names.lookup y.1 = some .local ∨ (Dt.scope.names.lookup y.1 = some .cell ∧ ((cellsFrom (s.heap.objs.size + 1) Dt.scope.names []).lookup y.1).isSome = true) := fun y hy => by
    rcases S.par y.1 (List.of_mem_zip hy).1 with z | z
    · exact .inl z
    · exact .inr ⟨z, PySem.W.cellsFrom_some _ _ _ (.inl z)⟩
  have lim : s.heap.NoLimit := e0.mod.nolimit.keeps fun b o e => (e0.bs b o e).1
  refine wpAny_newFunctionEnv_cells (s := s) S.kind hkind fun env he s1 x => ?_
  subst he
  refine ⟨lim.keeps x.toInCall.keep, codeAny_func ?_⟩
  have I : Inv (cxOf (L2.CX P w) P w K mg base Dt.N Dt.qual Dt.scope (He.fAd K Dt.at_) cdv A outer s H fun _ _ _ => False) [] (L2.start Dt.N vs) H s1 := inv_start S hr.hd e0 hvl r x
  generalize hX : cxOf (L2.CX P w) P w K mg base Dt.N Dt.qual Dt.scope (He.fAd K Dt.at_) cdv A outer s H (fun _ _ _ => False) = X0 at I
  have xN : X0.N = Dt.N := by subst hX; rfl
  have xS : X0.env.scope = Dt.scope := by subst hX; rfl
  have xK : X0.K = K := by subst hX; rfl
  have xP : X0.prog = P := by subst hX; rfl
  have xw : X0.w = w := by subst hX; rfl
  have xm : X0.mg = mg := by subst hX; rfl
  have xb : X0.base = base := by subst hX; rfl
  have x0 : X0.s_0 = s := by subst hX; rfl
  have xH : X0.H_0 = H := by subst hX; rfl
  have xfs : X0.fs = frs outer := by subst hX; rfl
  have xex : X0.ex = [] := by subst hX; rfl
  have hst' : X0.stack = X0.env :: X0.outer := by subst hX; rfl
  have hfr : X0.env.frame = some X0.env.locals := by subst hX; rfl
  have xA : X0.A = A.deeper (envOfC Dt.qual Dt.scope s.heap.objs.size (He.fAd K Dt.at_) cdv) := by subst hX; rfl
  have xq : X0.env.qual = (envOfC Dt.qual Dt.scope 0 0 .none).qual := by subst hX; rfl
  have xcd : X0.env.code = cdv := by subst hX; rfl
  have xe : X0.xe = fun e s' => wpAny (model X0.prog X0.w) X0.A (leaving X0.env e) (fun _ s'' => L2.CX X0.prog X0.w X0.outer X0.H_0 X0.s_0 (fun _ _ _ => False) e s'') (fun e' s'' => L2.CX P w outer H s (fun _ _ _ => False) e' s'') s' := by subst hX; rfl
  have N : CxN X0 := ⟨by rw [xN]; exact S.nd, I.ok.inj⟩
  have cn : ∀ n c, X0.env.cells.lookup n = some c → X0.base.get? c = none ∧ c ∉ frs X0.stack := fun n c hc => by
    have hge : s.heap.objs.size ≤ c := by rw [← x0]; exact I.ok.cab n c (by subst hX; rfl) hc
    refine ⟨?_, fun hm => ?_⟩
    · cases hz : X0.base.get? c with
      | none => rfl
      | some o =>
        have := Heap.lt_size (I.ok.bs c o hz).1
        rw [x0] at this
        exact absurd (Nat.lt_of_lt_of_le this hge) (Nat.lt_irrefl _)
    · rcases List.mem_cons.mp (I.stkSub c hm) with z | z
      · exact I.cne n c hc z
      · obtain ⟨_, o, ho', _⟩ := I.ok.funs.mem z
        have := Heap.lt_size ho'
        rw [x0] at this
        exact absurd (Nat.lt_of_lt_of_le this hge) (Nat.lt_irrefl _)
  have C0 : CxOk T tl k X0 (fun _ _ _ _ => False) Dt.N Dt.scope true true lb := by
    have hr' : Room k X0.A := by rw [xA]; exact hr.deeper _
    refine ⟨xN, xS, N, (by subst hX; rfl), by rw [xK, xm]; exact fx, ?_, ?_, fun _ => hr', fun _ => takes_of (E := fun _ _ _ => False) hst' hfr xex xe, fun _ => passes_of xe, fun _ x => (by subst hX; rfl), fun _ => ⟨hst', hfr⟩, fun hlb => ?_⟩
    · have := hr'.un
      omega
    · rw [xA]; exact hgd
    · obtain ⟨c, Pt, h1, h2, h3, h4⟩ := hlam hlb
      rw [xb, xm, xq, xcd]
      exact ⟨c, Pt, h1, h2, h3, h4⟩
  have R' : HR T X0.K tl [] ρ h H := by rw [xK]; exact R
  have Ev0 : EnvR T X0 [] ρ h H (xs.map .v ++ List.replicate (Df.ns - xs.length) .n) (L2.start Dt.N vs) := by
    refine ⟨fun j n hj hn => ?_, by rw [I.len], fun a ha => by (cases ha), fun a ha => by (cases ha)⟩
    by_cases hlt : j < xs.length
    · rw [List.getElem?_append_left (by simpa using hlt), List.getElem?_map]
      obtain ⟨x, ex⟩ : ∃ x, xs[j]? = some x := ⟨_, List.getElem?_eq_getElem hlt⟩
      rw [ex]
      obtain ⟨y, ey, ry⟩ := rx.get ex
      refine ⟨y, ?_, .inl (by rw [xK]; exact ry)⟩
      unfold L2.start
      rw [List.getElem?_append_left (by rw [List.length_map, ← rx.length]; exact hlt), List.getElem?_map, ey]
      rfl
    · rw [List.getElem?_append_right (by simpa using Nat.le_of_not_lt hlt)]
      rw [List.getElem?_replicate]
      split <;> exact True.intro
  obtain ⟨own, ρ1, R1, Ev1, _, _, _⟩ := start_cells I N cn (lo := h.n) (cells := Df.cells) (by rw [xN, xS]; exact G.cells) R' Ev0 (fun a ha => by cases ha) (Nat.le_refl _)
  obtain ⟨t, ht, hd⟩ := hbody X0 _ own xP xw xK xm xb C0 ρ1 H _ R1 Ev1
  have body := ht.run [] s1 (L2.start Dt.N vs) H (yesD tl) I hd
  rw [xP, xw, xA] at body
  have henv : X0.env = envOfC Dt.qual Dt.scope s.heap.objs.size (He.fAd K Dt.at_) cdv := by subst hX; rfl
  rw [henv] at body
  refine wpAny_mono body (fun fl s' hs => ?_) fun e s' hs => ?_
  · cases fl with
    | ret u =>
      obtain ⟨y, σ', H', J, ru, hy⟩ := hs
      have uJ : Un (frs outer) [] H H' s.heap s'.heap := by
        have := J.base
        rw [xfs, xex, xH, x0] at this
        exact this
      have hokJ : HOk P w H' s'.heap := by
        have := J.hok
        rw [xP, xw] at this
        exact this
      have hos := J.os
      rw [x0] at hos
      exact ⟨y, H', hos, J.bare, uJ, hokJ, ru, hy⟩
    | next =>
      obtain ⟨_, _, _, z⟩ := hs
      exact z.elim
    | brk =>
      obtain ⟨_, _, _, z⟩ := hs
      exact z.elim
    | cont =>
      obtain ⟨_, _, _, z⟩ := hs
      exact z.elim
  · rw [← hX] at hs
    exact hs
end
end Py

/-! What is dead is forgotten: heaps cut down. -/
set_option Elab.async false
set_option linter.all false
set_option maxRecDepth 100000
set_option maxHeartbeats 1000000
noncomputable section
namespace Py
open PySem PySem.Spec PyProof.Rows L2
mutual
/-- names no object but those ahead of k -/
def closedV (k : Nat) : PV → Bool
  | .obj a => Nat.blt a k
  | .tup xs => closedVs k xs
  | .exv _ => false
  | _ => true
def closedVs (k : Nat) : List PV → Bool
  | [] => true
  | x :: xs => closedV k x && closedVs k xs
end
def closedO (k : Nat) : HObj → Bool
  | .lst xs => closedVs k xs
  | .rol xs => closedVs k xs
  | .dct kvs _ => kvs.all fun q => closedV k q.2
  | .ins _ fs => fs.all fun q => closedV k q.2
  | .cell v => (match v with
    | some x => closedV k x
    | none => true)
  | .any => true
  | _ => false
section
variable {T : Tb} {K : PySem.W.Frag} {tl : List (Addr × Str)} {ρ : List Addr} {h hc : OHeap} {H : Hp} {own : List Nat} {k : Nat}
theorem take_get {a : Nat} {p : Addr} (ha : a < k) (e : ρ[a]? = some p) : (ρ.take k)[a]? = some p := by
  rw [List.getElem?_take, if_pos ha]
  exact e
theorem get_take {a : Nat} {p : Addr} (e : (ρ.take k)[a]? = some p) : a < k ∧ ρ[a]? = some p := by
  rw [List.getElem?_take] at e
  split at e
  · exact ⟨by assumption, e⟩
  · cases e
mutual
theorem VR.cut : ∀ {x : PV} {v : V}, closedV k x = true → VR T K ρ H x v → VR T K (ρ.take k) H x v
  | .non, _, _, r => r
  | .bl _, _, _, r => r
  | .int _, _, _, r => r
  | .str _, _, _, r => r
  | .obj a, _, c, ⟨p, e, r⟩ => ⟨p, e, take_get (Nat.le_of_ble_eq_true c) r⟩
  | .glo _, _, _, r => r
  | .tup xs, _, c, ⟨p, vs, e, r, s⟩ => ⟨p, vs, e, r, VRs.cut c s⟩
  | .exv _, _, _, r => r
theorem VRs.cut : ∀ {xs : List PV} {vs : List V}, closedVs k xs = true → VRs T K ρ H xs vs → VRs T K (ρ.take k) H xs vs
  | [], _, _, r => r
  | x :: xs, _, c, ⟨y, ys, e, r, s⟩ => by
    obtain ⟨c1, c2⟩ := and2 (show (closedV k x && closedVs k xs) = true from c)
    exact ⟨y, ys, e, VR.cut c1 r, VRs.cut c2 s⟩
end
theorem FR.cut : ∀ {fs : List (Nat × PV)} {gs : List (Str × V)}, (fs.all fun q => closedV k q.2) = true → FR T K ρ H fs gs → FR T K (ρ.take k) H fs gs
  | [], _, _, r => r
  | (f, x) :: fs, _, c, ⟨n, y, t, e, a, r, s⟩ => by
    rw [List.all_cons] at c
    obtain ⟨c1, c2⟩ := and2 c
    exact ⟨n, y, t, e, a, r.cut c1, FR.cut c2 s⟩
theorem DR.cut : ∀ {fs : List (PV × PV)} {gs : List (Key × V)}, (fs.all fun q => closedV k q.2) = true → DR T K ρ H fs gs → DR T K (ρ.take k) H fs gs
  | [], _, _, r => r
  | (f, x) :: fs, _, c, ⟨n, y, t, e, a, r, s⟩ => by
    rw [List.all_cons] at c
    obtain ⟨c1, c2⟩ := and2 c
    exact ⟨n, y, t, e, a, r.cut c1, DR.cut c2 s⟩
theorem OR.cut {a : Nat} {p : Addr} {o : HObj} (c : closedO k o = true) (r : OR T K ρ H own a p o) : OR T K (ρ.take k) H own a p o := by
  cases o with
  | lst xs => obtain ⟨vs, e, r⟩ := r; exact ⟨vs, e, r.cut c⟩
  | rol xs => obtain ⟨vs, r, s⟩ := r; exact ⟨vs, r.cut c, s⟩
  | dct kvs lk => obtain ⟨es, r, s⟩ := r; exact ⟨es, r.cut c, s⟩
  | ins cl fs => obtain ⟨dx, fs', e, r⟩ := r; exact ⟨dx, fs', e, r.cut c⟩
  | cell v =>
    rcases r with r | ⟨oc, e, r⟩
    · exact .inl r
    · refine .inr ⟨oc, e, fun x z => ?_⟩
      obtain ⟨u, y, e1, e2, e3⟩ := r x z
      subst z
      exact ⟨u, y, e1, e2, e3.cut c⟩
  | clo d caps => cases c
  | exc cl fs => cases c
  | any => exact True.intro
/-- an object, less known -/
inductive WkO (k : Nat) : HObj → HObj → Prop
  | same {o : HObj} (c : closedO k o = true) : WkO k o o
  | cell {v : Option PV} : WkO k (.cell v) (.cell none)
  | any {o : HObj} (n : ∀ v, o ≠ .cell v) : WkO k o .any
structure Cut (k : Nat) (h hc : OHeap) (fr frc : Py.Frame) : Prop where
  n : hc.n = k
  le : k ≤ h.n
  obj : ∀ a, a < k → ∃ o o', h.get a = some o ∧ hc.get a = some o' ∧ WkO k o o'
  v : ∀ (j : Nat) x, frc[j]? = some (.v x) → fr[j]? = some (.v x) ∧ closedV k x = true
  c : ∀ (j a : Nat), frc[j]? = some (.c a) ↔ fr[j]? = some (.c a)
theorem WkO.loose {o o' : HObj} {a : Nat} (w : WkO k o o') (n : ¬ loose own a o') : ¬ Py.loose own a o := by
  cases w with
  | same c => exact n
  | cell => exact n
  | any _ => exact absurd True.intro n
theorem HR.cut (R : HR T K tl own ρ h H) {fr frc : Py.Frame} (C : Cut k h hc fr frc) : HR T K tl own (ρ.take k) hc H := by
  have lt_of : ∀ {a : Nat} {o : HObj}, hc.get a = some o → a < k := fun {a o} e => by
    have := OHeap.get_lt e
    rw [C.n] at this
    exact this
  refine ⟨?_, fun a p e => ?_, fun a b o o' p e1 e2 n1 n2 r1 r2 => ?_, R.tab⟩
  · rw [List.length_take, R.len, C.n]
    exact Nat.min_eq_left C.le
  · obtain ⟨ha, e⟩ := get_take e
    obtain ⟨o, o', e1, e2, w⟩ := C.obj a ha
    refine ⟨o', e2, ?_⟩
    have r := R.atp e1 e
    cases w with
    | same c => exact r.cut c
    | cell =>
      rcases r with r | ⟨oc, e3, _⟩
      · exact .inl r
      · exact .inr ⟨oc, e3, fun x z => by cases z⟩
    | any _ => exact True.intro
  · obtain ⟨o1, o1', f1, f2, w1⟩ := C.obj a (lt_of e1)
    obtain ⟨o2, o2', g1, g2, w2⟩ := C.obj b (lt_of e2)
    rw [e1] at f2
    cases f2
    rw [e2] at g2
    cases g2
    exact R.nd a b o1 o2 p f1 g1 (w1.loose n1) (w2.loose n2) (get_take r1).2 (get_take r2).2
theorem EnvR.cut {X : Cx} {σ : L2.St} (hcm : X.calm = true) {fr frc : Py.Frame} (Ev : EnvR T X own ρ h H fr σ) (C : Cut k h hc fr frc) (ho : ∀ a ∈ own, a < k) : EnvR T X own (ρ.take k) hc H frc σ := by
  have cellC : ∀ {a : Nat} {v : Option PV}, a < k → h.get a = some (.cell v) → ∃ v', hc.get a = some (.cell v') ∧ ∀ x, v' = some x → v = some x ∧ closedV k x = true := fun {a v} ha e => by
    obtain ⟨o, o', e1, e2, w⟩ := C.obj a ha
    rw [e] at e1
    cases e1
    cases w with
    | same c => exact ⟨v, e2, fun x z => ⟨z, by subst z; exact c⟩⟩
    | cell => exact ⟨none, e2, fun x z => by cases z⟩
    | any n => exact absurd rfl (n v)
  refine ⟨fun j n hj hv => ?_, Ev.len, fun a ha b hb c e1 e2 => Ev.dif a ha b hb c (get_take e1).2 (get_take e2).2, fun a ha => ?_⟩
  · have z := Ev.slot j n hj hv
    cases e : frc[j]? with
    | none => exact True.intro
    | some sl =>
      cases sl with
      | n => exact True.intro
      | v x =>
        obtain ⟨e1, cl⟩ := C.v j x e
        rw [e1] at z
        obtain ⟨y, h1, h2⟩ := z
        refine ⟨y, h1, .inl ((h2.cl ?_).cut cl)⟩
        cases x <;> first | rfl | cases cl
      | c a =>
        rw [(C.c j a).mp e] at z
        obtain ⟨h1, h2, c, v, h3, h4, h5, h6⟩ := z
        obtain ⟨v', h7, h8⟩ := cellC (ho a h1) h5
        exact ⟨h1, h2, c, v', h3, take_get (ho a h1) h4, h7, fun x hx => let ⟨q1, q2⟩ := h8 x hx; let ⟨y, f1, f2⟩ := h6 x q1; ⟨y, f1, f2.cut q2⟩⟩
  · obtain ⟨c, v, h1, h2, h3, h4, h5⟩ := Ev.cel a ha
    obtain ⟨v', h7, h8⟩ := cellC (ho a ha) h4
    refine ⟨c, v', take_get (ho a ha) h1, h2, h3, h7, ?_⟩
    rcases h5 with ⟨j, n, g1, g2, g3, g4, g5, g6⟩ | ⟨g1, g2, g3, oc, g4, g5⟩
    · exact .inl ⟨j, n, g1, g2, g3, g4, (C.c j a).mpr g5, fun x hx => let ⟨q1, q2⟩ := h8 x hx; let ⟨y, f1, f2⟩ := g6 x q1; ⟨y, f1, f2.cut q2⟩⟩
    · exact .inr ⟨g1, g2, g3, oc, g4, fun x hx => let ⟨q1, q2⟩ := h8 x hx; let ⟨u, y, f1, f2, f3⟩ := g5 x q1; ⟨u, y, f1, f2, f3.cut q2⟩⟩
end
/-! ### statements, one behind another -/
section
variable {T : Tb} {tl : List (Addr × Str)} {C : CallH} {k f : Nat} {ck : Ck} {X : Cx} {W : WX} {own : List Nat} {ρ : List Addr} {h h' : OHeap} {H : Hp} {fr fr' : Py.Frame} {σ : L2.St}
def tApp (T : Tb) (X : Cx) (tl : List (Addr × Str)) (own : List Nat) (W : WX) (C : CallH) : ISs → TS2 → TS2
  | .nil, u => u
  | .cons s ss, u => fun D σ H => tS T X tl own W (evalS T.P C s) { D with nx := fun σ H => tApp T X tl own W C ss u D σ H } σ H
theorem qss_app (hlt : ∀ d L, LamOk T.bs d L → T.lt d L) (A : At T tl C k X W ck) {u : TS2} {rest : List Stmt} (hu : QSs X rest u) : ∀ {f : Nat} {ss : ISs} {sts : List Stmt}, chkSs T.bs f ck ss sts = true → QSs X (sts ++ rest) (tApp T X tl own W C ss u)
  | 0, _, _, h => by cases h
  | f + 1, .nil, [], _ => hu
  | f + 1, .nil, _ :: _, h => by cases h
  | f + 1, .cons _ _, [], h => by cases h
  | f + 1, .cons s ss, st :: sts, h => by
    have h : (chkS T.bs f ck s st && chkSs T.bs f ck ss sts) = true := h
    obtain ⟨h1, h2⟩ := and2 h
    have z := qss_cons ((sound hlt f).s _ _ _ h1 X W own A) (qss_app hlt A hu h2)
    exact z
theorem tApp_nx {u : TS2} {D : Ends2} : ∀ {ss : ISs} {ρ : List Addr} {h : OHeap} {H : Hp} {fr : Py.Frame} {σ : L2.St}, evalSs T.P C ss fr h = .nx fr' h' → HR T X.K tl own ρ h H → EnvR T X own ρ h H fr σ → (∀ ρ' H' σ', HR T X.K tl own ρ' h' H' → EnvR T X own ρ' h' H' fr' σ' → u D σ' H') → tApp T X tl own W C ss u D σ H
  | .nil, ρ, h, H, fr, σ, e, R, Ev, q => by
    have e : RS.nx fr h = .nx fr' h' := e
    cases e
    exact q ρ H σ R Ev
  | .cons s ss, ρ, h, H, fr, σ, e, R, Ev, q => by
    have e : (match evalS T.P C s fr h with
      | .nx fr h => evalSs T.P C ss fr h
      | r => r) = .nx fr' h' := e
    refine ⟨ρ, h, fr, R, Ev, ?_⟩
    cases es : evalS T.P C s fr h with
    | nx fr1 h1 =>
      rw [es] at e
      exact fun ρ1 H1 σ1 _ R1 Ev1 => tApp_nx e R1 Ev1 q
    | rt v fr1 h1 => rw [es] at e; cases e
    | bk fr1 h1 => rw [es] at e; cases e
    | ct fr1 h1 => rw [es] at e; cases e
    | ex x fr1 h1 => rw [es] at e; cases e
    | no => rw [es] at e; cases e
end
end Py

/-! A body in parts: each part from a small heap to the same small heap. -/
set_option Elab.async false
set_option linter.all false
set_option maxRecDepth 100000
set_option maxHeartbeats 1000000
noncomputable section
namespace Py
open PySem PySem.Spec PyProof.Rows L2
mutual
def eqPV : PV → PV → Bool
  | .non, .non => true
  | .bl a, .bl b => a == b
  | .int a, .int b => decide (a = b)
  | .str a, .str b => decide (a = b)
  | .obj a, .obj b => Nat.beq a b
  | .glo a, .glo b => Nat.beq a b
  | .tup xs, .tup ys => eqPVs xs ys
  | .exv a, .exv b => Nat.beq a b
  | _, _ => false
def eqPVs : List PV → List PV → Bool
  | [], [] => true
  | x :: xs, y :: ys => eqPV x y && eqPVs xs ys
  | _, _ => false
end
mutual
theorem eqPV_ok : ∀ {x y : PV}, eqPV x y = true → x = y
  | .non, y, h => by cases y <;> first | rfl | cases h
  | .bl a, y, h => by
    cases y with
    | bl b => rw [eq_of_beq (show (a == b) = true from h)]
    | _ => cases h
  | .int a, y, h => by
    cases y with
    | int b => rw [of_decide_eq_true (show decide (a = b) = true from h)]
    | _ => cases h
  | .str a, y, h => by
    cases y with
    | str b => rw [of_decide_eq_true (show decide (a = b) = true from h)]
    | _ => cases h
  | .obj a, y, h => by
    cases y with
    | obj b => rw [Nat.eq_of_beq_eq_true (show Nat.beq a b = true from h)]
    | _ => cases h
  | .glo a, y, h => by
    cases y with
    | glo b => rw [Nat.eq_of_beq_eq_true (show Nat.beq a b = true from h)]
    | _ => cases h
  | .tup xs, y, h => by
    cases y with
    | tup ys => rw [eqPVs_ok (show eqPVs xs ys = true from h)]
    | _ => cases h
  | .exv a, y, h => by
    cases y with
    | exv b => rw [Nat.eq_of_beq_eq_true (show Nat.beq a b = true from h)]
    | _ => cases h
theorem eqPVs_ok : ∀ {xs ys : List PV}, eqPVs xs ys = true → xs = ys
  | [], [], _ => rfl
  | [], _ :: _, h => by cases h
  | _ :: _, [], h => by cases h
  | x :: xs, y :: ys, h => by
    obtain ⟨h1, h2⟩ := and2 (show (eqPV x y && eqPVs xs ys) = true from h)
    rw [eqPV_ok h1, eqPVs_ok h2]
end
def eqFs : List (Nat × PV) → List (Nat × PV) → Bool
  | [], [] => true
  | (f, x) :: r, (g, y) :: s => Nat.beq f g && (eqPV x y && eqFs r s)
  | _, _ => false
theorem eqFs_ok : ∀ {r s : List (Nat × PV)}, eqFs r s = true → r = s
  | [], [], _ => rfl
  | [], _ :: _, h => by cases h
  | _ :: _, [], h => by cases h
  | (f, x) :: r, (g, y) :: s, h => by
    obtain ⟨h1, h⟩ := and2 (show (Nat.beq f g && (eqPV x y && eqFs r s)) = true from h)
    obtain ⟨h2, h3⟩ := and2 h
    rw [Nat.eq_of_beq_eq_true h1, eqPV_ok h2, eqFs_ok h3]
def eqOb : HObj → HObj → Bool
  | .lst a, .lst b => eqPVs a b
  | .rol a, .rol b => eqPVs a b
  | .dct [] a, .dct [] b => a == b
  | .ins c a, .ins d b => Nat.beq c d && eqFs a b
  | .cell (some a), .cell (some b) => eqPV a b
  | .cell none, .cell none => true
  | .any, .any => true
  | _, _ => false
theorem eqOb_ok {a b : HObj} (h : eqOb a b = true) : a = b := by
  unfold eqOb at h
  split at h
  · rw [eqPVs_ok h]
  · rw [eqPVs_ok h]
  · rw [eq_of_beq h]
  · obtain ⟨h1, h2⟩ := and2 h
    rw [Nat.eq_of_beq_eq_true h1, eqFs_ok h2]
  · rw [eqPV_ok h]
  · rfl
  · rfl
  · cases h
/-! ### small heaps -/
def ofL (l : List HObj) : OHeap := l.foldl OHeap.push OHeap.empty
theorem push_get {h : OHeap} {l : List HObj} : ∀ {i : Nat}, (l.foldl OHeap.push h).n = h.n + l.length ∧ (l.foldl OHeap.push h).get i = if i < h.n then h.get i else l[i - h.n]? := by
  induction l generalizing h with
  | nil =>
    intro i
    refine ⟨rfl, ?_⟩
    show h.get i = if i < h.n then h.get i else none
    by_cases c : i < h.n
    · rw [if_pos c]
    · rw [if_neg c]
      cases e : h.get i with
      | none => rfl
      | some o => exact absurd (OHeap.get_lt e) c
  | cons o l ih =>
    intro i
    obtain ⟨i1, i2⟩ := ih (h := h.push o) (i := i)
    refine ⟨by rw [List.foldl_cons, i1, OHeap.n_push, List.length_cons]; omega, ?_⟩
    rw [List.foldl_cons, i2, OHeap.n_push, OHeap.get_push]
    by_cases c : i < h.n
    · rw [if_pos (by omega), if_pos c, if_neg (Nat.ne_of_lt c)]
    · rw [if_neg c]
      by_cases c2 : i = h.n
      · rw [if_pos (by omega), if_pos c2, c2, Nat.sub_self]
        rfl
      · rw [if_neg (by omega), show i - h.n = (i - (h.n + 1)) + 1 by omega]
        rfl
theorem ofL_n {l : List HObj} : (ofL l).n = l.length := by
  have := (push_get (h := OHeap.empty) (l := l) (i := 0)).1
  rw [show OHeap.empty.n = 0 from rfl] at this
  unfold ofL
  omega
theorem ofL_get {l : List HObj} {i : Nat} : (ofL l).get i = l[i]? := by
  have := (push_get (h := OHeap.empty) (l := l) (i := i)).2
  rw [show OHeap.empty.n = 0 from rfl, if_neg (Nat.not_lt_zero _)] at this
  exact this
/-- an object that stands, the pot's two numbers, a cell, anything -/
inductive Pat where
  | same (o : HObj) | cel | any_
def Pat.obj : Pat → HObj
  | .same o => o
  | .cel => .cell none
  | .any_ => .any
/-- the pot at 0, behind it these -/
def small_ (ps : List Pat) (x y : Int) : OHeap := ofL (.lst [.int x, .int y] :: ps.map Pat.obj)
def patOk (k : Nat) : Pat → HObj → Bool
  | .same o, o' => eqOb o o' && closedO k o
  | .cel, .cell _ => true
  | .cel, _ => false
  | .any_, .cell _ => false
  | .any_, _ => true
theorem patOk_ok {k : Nat} {p : Pat} {o : HObj} (h : patOk k p o = true) : WkO k o p.obj := by
  cases p with
  | same q =>
    obtain ⟨h1, h2⟩ := and2 (show (eqOb q o && closedO k q) = true from h)
    rw [eqOb_ok h1] at h2 ⊢
    exact .same h2
  | cel =>
    cases o with
    | cell v => exact .cell
    | _ => cases h
  | any_ =>
    cases o with
    | cell v => cases h
    | _ => exact .any fun v z => by cases z
def objsOk (k : Nat) (h : OHeap) : Nat → List Pat → Bool
  | _, [] => true
  | i, p :: r => (match h.get i with
    | some o => patOk k p o
    | none => false) && objsOk k h (i + 1) r
theorem objsOk_ok {k : Nat} {h : OHeap} : ∀ {ps : List Pat} {i : Nat}, objsOk k h i ps = true → ∀ j p, ps[j]? = some p → ∃ o, h.get (i + j) = some o ∧ WkO k o p.obj
  | [], i, _, j, p, e => by simp at e
  | q :: ps, i, c, j, p, e => by
    obtain ⟨c1, c2⟩ := and2 (show ((match h.get i with
      | some o => patOk k q o
      | none => false) && objsOk k h (i + 1) ps) = true from c)
    cases j with
    | zero =>
      have e : q = p := by simpa using e
      subst e
      split at c1
      · rename_i o ho
        exact ⟨o, ho, patOk_ok c1⟩
      · cases c1
    | succ j =>
      obtain ⟨o, ho, w⟩ := objsOk_ok c2 j p (by simpa using e)
      exact ⟨o, by rw [show i + (j + 1) = i + 1 + j by omega]; exact ho, w⟩
def slotsOk (k : Nat) : Py.Frame → Py.Frame → Bool
  | [], [] => true
  | .n :: r, .v _ :: s => slotsOk k r s
  | .n :: r, .n :: s => slotsOk k r s
  | .v x :: r, .v y :: s => eqPV x y && (closedV k x && slotsOk k r s)
  | .c a :: r, .c b :: s => Nat.beq a b && slotsOk k r s
  | _, _ => false
theorem slotsOk_ok {k : Nat} : ∀ {frc fr : Py.Frame}, slotsOk k frc fr = true → (∀ (j : Nat) x, frc[j]? = some (.v x) → fr[j]? = some (.v x) ∧ closedV k x = true) ∧ ∀ (j a : Nat), frc[j]? = some (.c a) ↔ fr[j]? = some (.c a)
  | [], [], _ => ⟨fun j x e => by simp at e, fun j a => by simp⟩
  | [], _ :: _, h => by cases h
  | .n :: _, [], h => by cases h
  | .v _ :: _, [], h => by cases h
  | .c _ :: _, [], h => by cases h
  | .n :: r, .v y :: s, h => by
    obtain ⟨i1, i2⟩ := slotsOk_ok (show slotsOk k r s = true from h)
    refine ⟨fun j x e => ?_, fun j a => ?_⟩
    · cases j with
      | zero => simp at e
      | succ j => exact i1 j x (by simpa using e)
    · cases j with
      | zero => simp
      | succ j => simpa using i2 j a
  | .n :: r, .n :: s, h => by
    obtain ⟨i1, i2⟩ := slotsOk_ok (show slotsOk k r s = true from h)
    refine ⟨fun j x e => ?_, fun j a => ?_⟩
    · cases j with
      | zero => simp at e
      | succ j => exact i1 j x (by simpa using e)
    · cases j with
      | zero => simp
      | succ j => simpa using i2 j a
  | .n :: r, .c y :: s, h => by cases h
  | .v x :: r, .v y :: s, h => by
    obtain ⟨h1, h⟩ := and2 (show (eqPV x y && (closedV k x && slotsOk k r s)) = true from h)
    obtain ⟨h2, h3⟩ := and2 h
    obtain ⟨i1, i2⟩ := slotsOk_ok h3
    refine ⟨fun j z e => ?_, fun j a => ?_⟩
    · cases j with
      | zero =>
        have e : x = z := by simpa using e
        rw [← e, ← eqPV_ok h1]
        exact ⟨rfl, h2⟩
      | succ j => exact i1 j z (by simpa using e)
    · cases j with
      | zero => simp
      | succ j => simpa using i2 j a
  | .v x :: r, .n :: s, h => by cases h
  | .v x :: r, .c y :: s, h => by cases h
  | .c a :: r, .c b :: s, h => by
    obtain ⟨h1, h3⟩ := and2 (show (Nat.beq a b && slotsOk k r s) = true from h)
    obtain ⟨i1, i2⟩ := slotsOk_ok h3
    have h1 := Nat.eq_of_beq_eq_true h1
    refine ⟨fun j z e => ?_, fun j d => ?_⟩
    · cases j with
      | zero => simp at e
      | succ j => exact i1 j z (by simpa using e)
    · cases j with
      | zero => simp [h1]
      | succ j => simpa using i2 j d
  | .c a :: r, .n :: s, h => by cases h
  | .c a :: r, .v y :: s, h => by cases h
/-- a part's end -/
def nxOk (ps : List Pat) (frc : Py.Frame) (r : RS) : Bool := match r with
  | .nx fr h => Nat.ble (ps.length + 1) h.n && ((match h.get 0 with
    | some (.lst [.int _, .int _]) => true
    | _ => false) && (objsOk (ps.length + 1) h 1 ps && slotsOk (ps.length + 1) frc fr))
  | _ => false
theorem nxOk_ok {ps : List Pat} {frc : Py.Frame} {r : RS} (c : nxOk ps frc r = true) : ∃ fr h x y, r = .nx fr h ∧ Cut (ps.length + 1) h (small_ ps x y) fr frc := by
  unfold nxOk at c
  split at c
  · rename_i fr h
    obtain ⟨c1, c⟩ := and2 c
    obtain ⟨c2, c⟩ := and2 c
    obtain ⟨c3, c4⟩ := and2 c
    split at c2
    · rename_i x y hp
      obtain ⟨s1, s2⟩ := slotsOk_ok c4
      refine ⟨fr, h, x, y, rfl, ?_, Nat.le_of_ble_eq_true c1, fun a ha => ?_, s1, s2⟩
      · show (ofL _).n = _
        rw [ofL_n, List.length_cons, List.length_map]
      · show ∃ o o', _ ∧ (ofL _).get a = some o' ∧ _
        rw [ofL_get]
        cases a with
        | zero => exact ⟨_, _, hp, rfl, .same rfl⟩
        | succ a =>
          have hl : a < ps.length := by omega
          obtain ⟨o, ho, w⟩ := objsOk_ok c3 a ps[a] (List.getElem?_eq_getElem hl)
          refine ⟨o, ps[a].obj, by rw [show a + 1 = 1 + a by omega]; exact ho, ?_, w⟩
          rw [List.getElem?_cons_succ, List.getElem?_map, List.getElem?_eq_getElem hl]
          rfl
    · cases c2
  · cases c
def rtOk (r : RS) : Bool := match r with
  | .rt (.bl true) _ _ => true
  | _ => false
theorem rtOk_ok {r : RS} (c : rtOk r = true) : ∃ fr h, r = .rt (.bl true) fr h := by
  unfold rtOk at c
  split at c
  · exact ⟨_, _, rfl⟩
  · cases c
section
variable {T : Tb} {tl : List (Addr × Str)} {C : CallH} {k f : Nat} {ck : Ck} {X : Cx} {W : WX} {own : List Nat}
/-- the parts behind the first one -/
theorem yes_parts (hlt : ∀ d L, LamOk T.bs d L → T.lt d L) (A : At T tl C k X W ck) (hcm : X.calm = true) {ps : List Pat} {frc : Py.Frame} (ho : ∀ a ∈ own, a < ps.length + 1) {ssL : ISs} {stsL : List Stmt} (hL : chkSs T.bs f ck ssL stsL = true) (eL : ∀ x y, rtOk (evalSs T.P C ssL frc (small_ ps x y)) = true) :
    ∀ {parts : List (ISs × List Stmt)}, (∀ p ∈ parts, chkSs T.bs f ck p.1 p.2 = true ∧ ∀ x y, nxOk ps frc (evalSs T.P C p.1 frc (small_ ps x y)) = true) →
      ∃ u, QSs X (parts.flatMap (·.2) ++ stsL) u ∧ ∀ x y ρ H σ, HR T X.K tl own ρ (small_ ps x y) H → EnvR T X own ρ (small_ ps x y) H frc σ → u (yesD tl) σ H
  | [], _ => ⟨_, (sound hlt f).ss _ _ _ hL X W own A, fun x y ρ H σ R Ev => ⟨ρ, _, frc, R, Ev, by
      obtain ⟨fr, h, e⟩ := rtOk_ok (eL x y)
      rw [e]
      exact fun ρ' H' σ' v _ R' _ r => ⟨r, R'.tab⟩⟩⟩
  | p :: parts, hp => by
    obtain ⟨u, hu, q⟩ := yes_parts hlt A hcm ho hL eL (parts := parts) fun p' h => hp p' (List.mem_cons_of_mem _ h)
    obtain ⟨h1, h2⟩ := hp p List.mem_cons_self
    refine ⟨tApp T X tl own W C p.1 u, ?_, fun x y ρ H σ R Ev => ?_⟩
    · rw [List.flatMap_cons, List.append_assoc]
      exact qss_app hlt A hu h1
    · obtain ⟨fr, h, x', y', e, cut⟩ := nxOk_ok (h2 x y)
      exact tApp_nx e R Ev fun ρ' H' σ' R' Ev' => q x' y' _ H' σ' (R'.cut cut) (Ev'.cut hcm cut ho)
/-- .. and from the body's entry -/
theorem yes_body (hlt : ∀ d L, LamOk T.bs d L → T.lt d L) (A : At T tl C k X W ck) (hcm : X.calm = true) {ps : List Pat} {frc fr1 : Py.Frame} {h1 : OHeap} (hn : h1.n ≤ ps.length + 1) {ss0 ssL : ISs} {sts0 stsL : List Stmt} {parts : List (ISs × List Stmt)} (h0 : chkSs T.bs f ck ss0 sts0 = true) (e0 : nxOk ps frc (evalSs T.P C ss0 fr1 h1) = true)
    (hL : chkSs T.bs f ck ssL stsL = true) (eL : ∀ x y, rtOk (evalSs T.P C ssL frc (small_ ps x y)) = true) (hp : ∀ p ∈ parts, chkSs T.bs f ck p.1 p.2 = true ∧ ∀ x y, nxOk ps frc (evalSs T.P C p.1 frc (small_ ps x y)) = true) {ρ : List Addr} {H : Hp} {σ : L2.St}
    (R : HR T X.K tl own ρ h1 H) (Ev : EnvR T X own ρ h1 H fr1 σ) {body : List Stmt} (hb : body = sts0 ++ (parts.flatMap (·.2) ++ stsL)) : ∃ t, QSs X body t ∧ t (yesD tl) σ H := by
  have ho : ∀ a ∈ own, a < ps.length + 1 := fun a ha => by
    obtain ⟨_, _, _, _, _, e, _⟩ := Ev.cel a ha
    have := OHeap.get_lt e
    omega
  obtain ⟨u, hu, q⟩ := yes_parts hlt A hcm ho hL eL hp
  rw [hb]
  refine ⟨tApp T X tl own W C ss0 u, qss_app hlt A hu h0, ?_⟩
  obtain ⟨fr, h, x', y', e, cut⟩ := nxOk_ok e0
  exact tApp_nx e R Ev fun ρ' H' σ' R' Ev' => q x' y' _ H' σ' (R'.cut cut) (Ev'.cut hcm cut ho)
end
end Py

/-! The pot: what the draws answer. -/
set_option Elab.async false
set_option linter.all false
set_option maxRecDepth 100000
set_option maxHeartbeats 1000000
noncomputable section
namespace Py
open PySem PySem.Spec PyProof.Rows L2
/-- the draw's body -/
def drawB : ISs := (.cons (.ite (.cmp .gt (.sub (.loc 0) (.int 0)) (.int 0)) (.cons (.asg (.tup (.cons (.sub (.loc 0) (.int 0)) (.cons (.name 2) .nil))) (.bf .divmod (.cons (.sub (.loc 0) (.int 0)) (.cons (.loc 1) .nil)))) (.cons (.ret (.loc 2)) .nil)) .nil) (.cons (.asg (.sub (.loc 0) (.int 1)) (.bin .mod (.bf .int (.cons (.bin .add (.bin .mul (.sub (.loc 0) (.int 1)) (.int 48271)) (.int 2341)) .nil)) (.int 2147483587))) (.cons (.ret (.bin .mod (.bf .int (.cons (.bin .fdiv (.bin .mod (.bf .int (.cons (.bin .mul (.sub (.loc 0) (.int 1)) (.sub (.loc 0) (.int 1))) .nil)) (.int 2147483549)) (.int 613)) .nil)) (.loc 1))) .nil)))
section
variable {P : Prog} {C : CallH}
theorem sub_ev {fr : Py.Frame} {h : OHeap} {i k a : Nat} {xs : List PV} {v : PV} (h1 : fr[i]? = some (.v (.obj a))) (h2 : h.get a = some (.lst xs)) (h3 : xs[k]? = some v) : evalE P C (.sub (.loc i) (.int (.ofNat k))) fr h = .ok v h := by
  have hl : k < xs.length := (List.getElem?_eq_some_iff.mp h3).1
  have e1 : Nat.blt k xs.length = true := Nat.ble_eq.mpr hl
  simp only [evalE, fget, h1, R.bind, subscr, elems, h2, idx, e1, h3]
theorem draw_ev {h : OHeap} {a : Nat} {x y m : Int} (hp : h.get a = some (.lst [.int x, .int y])) (hm : 0 < m) (hm2 : m < 1073741824) : ∃ d x' y' fr', 0 ≤ d ∧ d < m ∧ evalSs P C drawB [.v (.obj a), .v (.int m), .n] h = .rt (.int d) fr' (h.set a (.lst [.int x', .int y'])) := by
  have e0 : ∀ {fr : Py.Frame} {h : OHeap} {x y : Int}, fr[0]? = some (.v (.obj a)) → h.get a = some (.lst [.int x, .int y]) → evalE P C (.sub (.loc 0) (.int 0)) fr h = .ok (.int x) h := fun h1 h2 => sub_ev (k := 0) h1 h2 rfl
  have e1 : ∀ {fr : Py.Frame} {h : OHeap} {x y : Int}, fr[0]? = some (.v (.obj a)) → h.get a = some (.lst [.int x, .int y]) → evalE P C (.sub (.loc 0) (.int 1)) fr h = .ok (.int y) h := fun h1 h2 => sub_ev (k := 1) h1 h2 rfl
  have f0 : ([.v (.obj a), .v (.int m), .n] : Py.Frame)[0]? = some (.v (.obj a)) := rfl
  have f1 : ([.v (.obj a), .v (.int m), .n] : Py.Frame)[1]? = some (.v (.int m)) := rfl
  by_cases hx : 0 < x
  · refine ⟨x % m, x / m, y, [.v (.obj a), .v (.int m), .v (.int (x % m))], Int.emod_nonneg _ (by omega), Int.emod_lt_of_pos _ hm, ?_⟩
    have d1 : (decide (0 < m) && decide (m < 1073741824)) = true := by rw [decide_eq_true hm, decide_eq_true hm2]; rfl
    have g1 : h.get a = some (.lst [.int x, .int y]) := hp
    have r1 : (evalEs P C (.cons (.sub (.loc 0) (.int 0)) (.cons (.loc 1) .nil)) [.v (.obj a), .v (.int m), .n] h) = .ok [.int x, .int m] h := by
      have l1 : evalE P C (.loc 1) [.v (.obj a), .v (.int m), .n] h = .ok (.int m) h := by simp only [evalE, fget, f1]
      rw [evalEs, e0 f0 hp]
      dsimp only [R.bind, clean]
      rw [evalEs, l1]
      dsimp only [R.bind, clean]
      rw [evalEs]
    have c1 : evalE P C (.cmp .gt (.sub (.loc 0) (.int 0)) (.int 0)) [.v (.obj a), .v (.int m), .n] h = .ok (.bl true) h := by
      have e2 : evalE P C (.cmp .gt (.sub (.loc 0) (.int 0)) (.int 0)) [.v (.obj a), .v (.int m), .n] h = (evalE P C (.sub (.loc 0) (.int 0)) [.v (.obj a), .v (.int m), .n] h).bind fun u h => (evalE P C (.int 0) [.v (.obj a), .v (.int m), .n] h).bind fun w h => cmpop P .gt u w h := by rw [evalE]
      rw [e2, e0 f0 hp]
      simp only [R.bind, evalE, cmpop, decide_eq_true hx]
    have t1 : evalS P C (.asg (.tup (.cons (.sub (.loc 0) (.int 0)) (.cons (.name 2) .nil))) (.bf .divmod (.cons (.sub (.loc 0) (.int 0)) (.cons (.loc 1) .nil)))) [.v (.obj a), .v (.int m), .n] h = .nx [.v (.obj a), .v (.int m), .v (.int (x % m))] (h.set a (.lst [.int (x / m), .int y])) := by
      have b1 : evalE P C (.bf .divmod (.cons (.sub (.loc 0) (.int 0)) (.cons (.loc 1) .nil))) [.v (.obj a), .v (.int m), .n] h = .ok (.tup [.int (x / m), .int (x % m)]) h := by
        rw [evalE, r1]
        simp only [R.bind, builtin, d1]
      have l0 : evalE P C (.loc 0) [.v (.obj a), .v (.int m), .n] h = .ok (.obj a) h := by simp only [evalE, fget, f0]
      have i0 : evalE P C (.int 0) [.v (.obj a), .v (.int m), .n] h = .ok (.int 0) h := by simp only [evalE]
      have s0 : assignT P C (.sub (.loc 0) (.int 0)) (.int (x / m)) [.v (.obj a), .v (.int m), .n] h = .nx [.v (.obj a), .v (.int m), .n] (h.set a (.lst [.int (x / m), .int y])) := by
        rw [assignT, l0]
        dsimp only [R.toS]
        rw [i0]
        dsimp only [R.toS, clean]
        rw [hp]
        rfl
      rw [evalS, b1]
      dsimp only [R.toS, clean]
      rw [assignT]
      show assignTs P C (.cons (.sub (.loc 0) (.int 0)) (.cons (.name 2) .nil)) [.int (x / m), .int (x % m)] [.v (.obj a), .v (.int m), .n] h = _
      rw [assignTs]
      rw [s0]
      rfl
    have i1 : evalS P C (.ite (.cmp .gt (.sub (.loc 0) (.int 0)) (.int 0)) (.cons (.asg (.tup (.cons (.sub (.loc 0) (.int 0)) (.cons (.name 2) .nil))) (.bf .divmod (.cons (.sub (.loc 0) (.int 0)) (.cons (.loc 1) .nil)))) (.cons (.ret (.loc 2)) .nil)) .nil) [.v (.obj a), .v (.int m), .n] h = .rt (.int (x % m)) [.v (.obj a), .v (.int m), .v (.int (x % m))] (h.set a (.lst [.int (x / m), .int y])) := by
      rw [evalS, c1]
      dsimp only [R.toS, truth]
      rw [evalSs, t1]
      rfl
    unfold drawB
    rw [evalSs, i1]
  · generalize hy : (y * 48271 + 2341) % 2147483587 = y'
    have y0 : 0 ≤ y' := by omega
    have y1 : y' < 2147483587 := by omega
    have d1 : decide ((0 : Int) < m) = true := decide_eq_true hm
    have sm : small y' = true := by
      unfold small
      exact Nat.ble_eq.mpr (by omega)
    have g2 : (h.set a (.lst [.int x, .int y'])).get a = some (.lst [.int x, .int y']) := by rw [OHeap.get_set (OHeap.get_lt hp), if_pos rfl]
    have c1 : evalE P C (.cmp .gt (.sub (.loc 0) (.int 0)) (.int 0)) [.v (.obj a), .v (.int m), .n] h = .ok (.bl false) h := by
      have e2 : evalE P C (.cmp .gt (.sub (.loc 0) (.int 0)) (.int 0)) [.v (.obj a), .v (.int m), .n] h = (evalE P C (.sub (.loc 0) (.int 0)) [.v (.obj a), .v (.int m), .n] h).bind fun u h => (evalE P C (.int 0) [.v (.obj a), .v (.int m), .n] h).bind fun w h => cmpop P .gt u w h := by rw [evalE]
      rw [e2, e0 f0 hp]
      simp only [R.bind, evalE, cmpop, decide_eq_false hx]
    have i1 : evalS P C (.ite (.cmp .gt (.sub (.loc 0) (.int 0)) (.int 0)) (.cons (.asg (.tup (.cons (.sub (.loc 0) (.int 0)) (.cons (.name 2) .nil))) (.bf .divmod (.cons (.sub (.loc 0) (.int 0)) (.cons (.loc 1) .nil)))) (.cons (.ret (.loc 2)) .nil)) .nil) [.v (.obj a), .v (.int m), .n] h = .nx [.v (.obj a), .v (.int m), .n] h := by
      rw [evalS, c1]
      dsimp only [R.toS, truth]
      rw [evalSs]
    have m1 : evalE P C (.bin .mod (.bf .int (.cons (.bin .add (.bin .mul (.sub (.loc 0) (.int 1)) (.int 48271)) (.int 2341)) .nil)) (.int 2147483587)) [.v (.obj a), .v (.int m), .n] h = .ok (.int y') h := by
      have q1 : evalE P C (.bin .mul (.sub (.loc 0) (.int 1)) (.int 48271)) [.v (.obj a), .v (.int m), .n] h = .ok (.int (y * 48271)) h := by
        rw [evalE, e1 f0 hp]
        dsimp only [R.bind]
        rw [evalE]
        dsimp only [R.bind, binop, mulV]
        rw [show (small y || small 48271) = true by rw [show small 48271 = true from rfl, Bool.or_true]]
      have q2 : evalE P C (.bin .add (.bin .mul (.sub (.loc 0) (.int 1)) (.int 48271)) (.int 2341)) [.v (.obj a), .v (.int m), .n] h = .ok (.int (y * 48271 + 2341)) h := by
        rw [evalE, q1]
        dsimp only [R.bind]
        rw [evalE]
        rfl
      rw [evalE, evalE, evalEs, q2]
      dsimp only [R.bind, clean]
      rw [evalEs]
      dsimp only [R.bind, builtin]
      rw [evalE]
      dsimp only [R.bind, binop]
      rw [show decide ((0 : Int) < 2147483587) = true from rfl, hy]
    have t1 : evalS P C (.asg (.sub (.loc 0) (.int 1)) (.bin .mod (.bf .int (.cons (.bin .add (.bin .mul (.sub (.loc 0) (.int 1)) (.int 48271)) (.int 2341)) .nil)) (.int 2147483587))) [.v (.obj a), .v (.int m), .n] h = .nx [.v (.obj a), .v (.int m), .n] (h.set a (.lst [.int x, .int y'])) := by
      have l0 : evalE P C (.loc 0) [.v (.obj a), .v (.int m), .n] h = .ok (.obj a) h := by simp only [evalE, fget, f0]
      have i0 : evalE P C (.int 1) [.v (.obj a), .v (.int m), .n] h = .ok (.int 1) h := by simp only [evalE]
      rw [evalS, m1]
      dsimp only [R.toS, clean]
      rw [assignT, l0]
      dsimp only [R.toS]
      rw [i0]
      dsimp only [R.toS, clean]
      rw [hp]
      rfl
    have rr : evalE P C (.bin .mod (.bf .int (.cons (.bin .fdiv (.bin .mod (.bf .int (.cons (.bin .mul (.sub (.loc 0) (.int 1)) (.sub (.loc 0) (.int 1))) .nil)) (.int 2147483549)) (.int 613)) .nil)) (.loc 1)) [.v (.obj a), .v (.int m), .n] (h.set a (.lst [.int x, .int y'])) = .ok (.int (((y' * y') % 2147483549 / 613) % m)) (h.set a (.lst [.int x, .int y'])) := by
      have q1 : evalE P C (.bin .mul (.sub (.loc 0) (.int 1)) (.sub (.loc 0) (.int 1))) [.v (.obj a), .v (.int m), .n] (h.set a (.lst [.int x, .int y'])) = .ok (.int (y' * y')) (h.set a (.lst [.int x, .int y'])) := by
        rw [evalE, e1 f0 g2]
        dsimp only [R.bind]
        rw [e1 f0 g2]
        dsimp only [R.bind, binop, mulV]
        rw [show (small y' || small y') = true by rw [sm]; rfl]
      have q2 : evalE P C (.bin .mod (.bf .int (.cons (.bin .mul (.sub (.loc 0) (.int 1)) (.sub (.loc 0) (.int 1))) .nil)) (.int 2147483549)) [.v (.obj a), .v (.int m), .n] (h.set a (.lst [.int x, .int y'])) = .ok (.int ((y' * y') % 2147483549)) (h.set a (.lst [.int x, .int y'])) := by
        rw [evalE, evalE, evalEs, q1]
        dsimp only [R.bind, clean]
        rw [evalEs]
        dsimp only [R.bind, builtin]
        rw [evalE]
        dsimp only [R.bind, binop]
        rw [show decide ((0 : Int) < 2147483549) = true from rfl]
      rw [evalE, evalE, evalEs, evalE, q2]
      dsimp only [R.bind]
      rw [evalE]
      dsimp only [R.bind, binop]
      rw [show (decide ((0 : Int) < 613) && decide ((613 : Int) < 1073741824)) = true from rfl]
      dsimp only [R.bind, clean]
      rw [evalEs]
      dsimp only [R.bind, builtin]
      rw [evalE]
      simp only [fget, f1]
      rw [d1]
    refine ⟨((y' * y') % 2147483549 / 613) % m, x, y', [.v (.obj a), .v (.int m), .n], Int.emod_nonneg _ (by omega), Int.emod_lt_of_pos _ hm, ?_⟩
    unfold drawB
    rw [evalSs, i1]
    dsimp only
    rw [evalSs, t1]
    dsimp only
    rw [evalSs, evalS, rr]
    rfl
/-- the pick's body -/
def pickB (gd : Nat) : ISs := (.cons (.ret (.sub (.loc 1) (.call gd (.cons (.loc 0) (.cons (.bf .len (.cons (.loc 1) .nil)) .nil))))) .nil)
def outV : RS → R PV
  | .rt v _ h => .ok v h
  | .nx _ h => .ok .non h
  | .ex e _ h => .ex e h
  | _ => .no
/-- a def of so many slots, no cells, with this body -/
structure Plain (P : Prog) (d np ns : Nat) (b : ISs) (D : Dfn) : Prop where
  at_ : P.dfns.get d = some D
  star : D.star = false
  ps : D.ps.length = np
  ns : D.ns = ns
  cells : D.cells = []
  body : D.body = b
theorem Plain.call {d np ns : Nat} {b : ISs} {D : Dfn} (Z : Plain P d np ns b D) {vs : List PV} (hv : vs.length = np) (n : Nat) (h : OHeap) : callDef P (callD P (n + 1)) d vs [] [] h = outV (evalSs P (callD P n) b (vs.map .v ++ List.replicate (ns - np) .n) h) := by
  obtain ⟨ps, star, dfl, sh, ns', cells, body⟩ := D
  obtain ⟨h1, h2, h3, h4, h5, h6⟩ := Z
  dsimp only at h2 h3 h4 h5 h6
  subst h2 h3 h4 h5 h6
  unfold callDef
  rw [h1]
  unfold bindA
  dsimp only
  rw [hv, show Nat.beq ps.length ps.length = true from Nat.beq_refl _]
  dsimp only
  have e2 : callD P (n + 1) d vs [] h = callB P (callD P n) ⟨ps, false, dfl, sh, ns', [], body⟩ vs h := by
    show (match P.dfns.get d with
      | some D => _
      | none => _) = _
    rw [h1]
    rfl
  rw [e2, ← hv]
  rfl
theorem pick_ev {gd dd dp : Nat} {Dd Dp : Dfn} (Zd : Plain P dd 2 3 drawB Dd) (Zp : Plain P dp 2 2 (pickB gd) Dp) (hg : P.globs.get gd = some (.fn dd)) {h : OHeap} {a L : Nat} {x y : Int} {its : List PV} (hp : h.get a = some (.lst [.int x, .int y])) (hL : h.get L = some (.lst its)) (ne : L ≠ a) (h0 : 0 < its.length) (h1 : its.length < 1073741824) (hcl : its.all clean = true) (n : Nat) :
    ∃ v x' y', v ∈ its ∧ callDef P (callD P (n + 2)) dp [.obj a, .obj L] [] [] h = .ok v (h.set a (.lst [.int x', .int y'])) := by
  obtain ⟨d, x', y', fr', d0, d1, ed⟩ := draw_ev (P := P) (C := callD P n) (h := h) (a := a) (x := x) (y := y) (m := (its.length : Int)) hp (by omega) (by omega)
  obtain ⟨j, ej⟩ : ∃ j : Nat, d = .ofNat j := ⟨d.toNat, (Int.toNat_of_nonneg d0).symm⟩
  subst ej
  have hj : j < its.length := by
    have : (j : Int) < its.length := d1
    omega
  refine ⟨its[j], x', y', List.getElem_mem hj, ?_⟩
  have ed2 : callDef P (callD P (n + 1)) dd [.obj a, .int its.length] [] [] h = .ok (.int (.ofNat j)) (h.set a (.lst [.int x', .int y'])) := by
    rw [Zd.call rfl]
    show outV (evalSs P (callD P n) drawB [.v (.obj a), .v (.int its.length), .n] h) = _
    rw [ed]
    rfl
  rw [show n + 2 = (n + 1) + 1 from rfl, Zp.call rfl]
  show outV (evalSs P (callD P (n + 1)) (pickB gd) [.v (.obj a), .v (.obj L)] h) = _
  have l1 : ∀ C, evalE P C (.loc 1) [.v (.obj a), .v (.obj L)] h = .ok (.obj L) h := fun C => by rw [evalE]; rfl
  have l0 : ∀ C, evalE P C (.loc 0) [.v (.obj a), .v (.obj L)] h = .ok (.obj a) h := fun C => by rw [evalE]; rfl
  have ln : ∀ C, evalE P C (.bf .len (.cons (.loc 1) .nil)) [.v (.obj a), .v (.obj L)] h = .ok (.int its.length) h := fun C => by
    rw [evalE, evalEs, l1]
    dsimp only [R.bind, clean]
    rw [evalEs]
    dsimp only [R.bind, builtin, lenV, elems]
    rw [hL]
  have ca : callable P gd = true := by
    unfold callable
    rw [hg]
    dsimp only
    rw [Zd.at_]
  have cc : ∀ C, callG P C gd [.obj a, .int its.length] [] [] h = callDef P C dd [.obj a, .int its.length] [] [] h := fun C => by
    unfold callG
    rw [hg]
  have gL : (h.set a (.lst [.int x', .int y'])).get L = some (.lst its) := by rw [OHeap.get_set (OHeap.get_lt hp), if_neg ne, hL]
  have cv : clean its[j] = true := List.all_eq_true.mp hcl _ (List.getElem_mem hj)
  unfold pickB
  rw [evalSs, evalS, evalE, l1]
  dsimp only [R.bind]
  rw [evalE, ca]
  dsimp only
  rw [evalEs, l0]
  dsimp only [R.bind, clean]
  rw [evalEs, ln]
  dsimp only [R.bind, clean]
  rw [evalEs]
  dsimp only [R.bind]
  rw [cc, ed2]
  dsimp only [R.bind, subscr, elems]
  rw [gL]
  dsimp only [idx]
  rw [show Nat.blt j its.length = true from Nat.ble_eq.mpr hj]
  dsimp only
  rw [List.getElem?_eq_getElem hj]
  generalize its[j] = v at cv ⊢
  cases v <;> first | rfl | cases cv
/-- an odd value is picked from a menu into the cell 4, and then these -/
def secOk (P : Prog) (C : CallH) (as : IEs) (ss : ISs) (ps : List Pat) (frc : Py.Frame) (x y x' y' : Int) : Bool := match evalEs P C as frc (small_ ps x y) with
  | .ok [.obj 0, .obj L] h => (match h.get 0 with
    | some (.lst [.int _, .int _]) => (match h.get L with
      | some (.lst its) => !(Nat.beq L 0) && (Nat.blt 0 its.length && (Nat.blt its.length 1073741824 && (its.all clean && its.all fun v => nxOk ps frc (evalSs P C ss frc ((h.set 0 (.lst [.int x', .int y'])).set 4 (.cell (some v))))))) 
      | _ => false)
    | _ => false)
  | _ => false
/-- .. told one by one -/
def secAt (P : Prog) (C : CallH) (as : IEs) (ss : ISs) (ps : List Pat) (frc : Py.Frame) (x y x' y' : Int) (i : Nat) : Bool := match evalEs P C as frc (small_ ps x y) with
  | .ok [.obj 0, .obj L] h => (match h.get L with
      | some (.lst its) => (match its[i]? with
        | some v => nxOk ps frc (evalSs P C ss frc ((h.set 0 (.lst [.int x', .int y'])).set 4 (.cell (some v))))
        | none => false)
      | _ => false)
  | _ => false
def secN (P : Prog) (C : CallH) (as : IEs) (ps : List Pat) (frc : Py.Frame) (x y : Int) (n : Nat) : Bool := match evalEs P C as frc (small_ ps x y) with
  | .ok [.obj 0, .obj L] h => (match h.get 0 with
    | some (.lst [.int _, .int _]) => (match h.get L with
      | some (.lst its) => !(Nat.beq L 0) && (Nat.blt 0 its.length && (Nat.blt its.length 1073741824 && (its.all clean && Nat.beq its.length n)))
      | _ => false)
    | _ => false)
  | _ => false
theorem sec_of {P : Prog} {C : CallH} {as : IEs} {ss : ISs} {ps : List Pat} {frc : Py.Frame} {x y x' y' : Int} {n : Nat} (hn : secN P C as ps frc x y n = true) (hi : ∀ i, i < n → secAt P C as ss ps frc x y x' y' i = true) : secOk P C as ss ps frc x y x' y' = true := by
  unfold secN at hn
  unfold secOk
  split at hn
  case h_2 => cases hn
  rename_i L h he
  try simp only [he]
  split at hn
  case h_2 => cases hn
  rename_i u v hp
  try simp only [hp]
  split at hn
  case h_2 => cases hn
  rename_i its hL
  try simp only [hL]
  obtain ⟨z1, z⟩ := and2 hn
  obtain ⟨z2, z⟩ := and2 z
  obtain ⟨z3, z⟩ := and2 z
  obtain ⟨z4, z5⟩ := and2 z
  have z5 := Nat.eq_of_beq_eq_true z5
  rw [z1, z2, z3, z4, Bool.true_and, Bool.true_and, Bool.true_and, Bool.true_and]
  refine List.all_eq_true.mpr fun v hv => ?_
  obtain ⟨i, hl, rfl⟩ := List.getElem_of_mem hv
  have q := hi i (by omega)
  unfold secAt at q
  simp only [he, hL, List.getElem?_eq_getElem hl] at q
  exact q
theorem sec_ok {gd dd dp gp n : Nat} {Dd Dp : Dfn} (Zd : Plain P dd 2 3 drawB Dd) (Zp : Plain P dp 2 2 (pickB gd) Dp) (hg : P.globs.get gd = some (.fn dd)) (hgp : P.globs.get gp = some (.fn dp)) {as : IEs} {ss : ISs} {ps : List Pat} {frc : Py.Frame} (hf : frc[4]? = some (.c 4)) (hc : ∀ x y x' y', secOk P (callD P (n + 2)) as ss ps frc x y x' y' = true) (x y : Int) : nxOk ps frc (evalSs P (callD P (n + 2)) (.cons (.asg (.name 4) (.call gp as)) ss) frc (small_ ps x y)) = true := by
  have c0 : ∀ x' y', secOk P (callD P (n + 2)) as ss ps frc x y x' y' = true := fun x' y' => hc x y x' y'
  unfold secOk at c0
  have ca : callable P gp = true := by
    unfold callable
    rw [hgp]
    dsimp only
    rw [Zp.at_]
  have z := c0 0 0
  split at z
  case h_2 => cases z
  rename_i L h he
  split at z
  case h_2 => cases z
  rename_i u v hp
  split at z
  case h_2 => cases z
  rename_i its hL
  obtain ⟨z1, z⟩ := and2 z
  obtain ⟨z2, z⟩ := and2 z
  obtain ⟨z3, z⟩ := and2 z
  obtain ⟨z4, _⟩ := and2 z
  obtain ⟨v, x', y', hv, ep⟩ := pick_ev Zd Zp hg hp hL (fun q => by subst q; cases z1) (Nat.ble_eq.mp z2) (Nat.ble_eq.mp z3) z4 n
  have q := c0 x' y'
  simp only [he, hp, hL] at q
  obtain ⟨_, q⟩ := and2 q
  obtain ⟨_, q⟩ := and2 q
  obtain ⟨_, q⟩ := and2 q
  obtain ⟨_, q⟩ := and2 q
  have q := List.all_eq_true.mp q v hv
  have cv : clean v = true := List.all_eq_true.mp z4 v hv
  have cg : ∀ C, callG P C gp [.obj 0, .obj L] [] [] h = callDef P C dp [.obj 0, .obj L] [] [] h := fun C => by
    unfold callG
    rw [hgp]
  have e1 : evalE P (callD P (n + 2)) (.call gp as) frc (small_ ps x y) = .ok v (h.set 0 (.lst [.int x', .int y'])) := by
    rw [evalE, ca]
    dsimp only
    rw [he]
    dsimp only [R.bind]
    rw [cg, ep]
  have e2 : evalS P (callD P (n + 2)) (.asg (.name 4) (.call gp as)) frc (small_ ps x y) = .nx frc ((h.set 0 (.lst [.int x', .int y'])).set 4 (.cell (some v))) := by
    rw [evalS, e1]
    dsimp only [R.toS]
    rw [cv]
    dsimp only
    rw [assignT]
    unfold fput
    rw [hf]
    dsimp only
    rw [cv]
  rw [evalSs, e2]
  exact q
end
end Py

/-! The law's call, its helper read by hand. -/
set_option Elab.async false
set_option linter.all false
set_option maxRecDepth 100000
set_option maxHeartbeats 1000000
noncomputable section
namespace Py
open PySem PySem.Spec PyProof.Rows L2
def looseO : HObj → Bool
  | .rol _ => true
  | .any => true
  | _ => false
def allLoose (h : OHeap) (a : Nat) : Nat → Bool
  | 0 => true
  | i + 1 => (Nat.beq i a || (match h.get i with
    | some o => looseO o
    | none => false)) && allLoose h a i
theorem allLoose_ok {h : OHeap} {a : Nat} : ∀ {n : Nat}, allLoose h a n = true → ∀ i, i < n → i ≠ a → ∃ o, h.get i = some o ∧ looseO o = true
  | 0, _, i, hi, _ => absurd hi (Nat.not_lt_zero _)
  | n + 1, c, i, hi, ne => by
    obtain ⟨c1, c2⟩ := and2 (show ((Nat.beq n a || (match h.get n with
      | some o => looseO o
      | none => false)) && allLoose h a n) = true from c)
    by_cases e : i = n
    · subst e
      rcases Bool.or_eq_true_iff.mp c1 with z | z
      · exact absurd (Nat.eq_of_beq_eq_true z) ne
      · split at z
        · rename_i o ho
          exact ⟨o, ho, z⟩
        · cases z
    · exact allLoose_ok c2 i (by omega) ne
/-- the def dr answers True, and spoils its pot -/
def yesC (C : CallH) (dr : Nat) : CallH := fun d vs caps h => match Nat.beq d dr with
  | true => (match vs, caps with
    | [.obj a], [] => (match h.get a with
      | some (.lst [.int _, .int _]) => (match allLoose h a h.n with
        | true => .ok (.bl true) (h.set a .any)
        | false => .no)
      | _ => .no)
    | _, _ => .no)
  | false => C d vs caps h
section
variable {T : Tb} {tl : List (Addr × Str)} {K : PySem.W.Frag} {base : Heap} {P : Program} {w : World} {mg : Str → Option Value} {C C0 : CallH} {k : Nat}
theorem pot_hr {ρ : List Addr} {h : OHeap} {H : Hp} {a : Nat} {p : Addr} {x y : Int} (R : HR T K tl [] ρ h H) (e : h.get a = some (.lst [.int x, .int y])) (ea : ρ[a]? = some p) : HR T K tl [] [p] (ofL [.lst [.int x, .int y]]) H := by
  obtain ⟨vs, hp, rv⟩ := R.atp e ea
  obtain ⟨v1, r1, e1, q1, s1⟩ := rv
  obtain ⟨v2, r2, e2, q2, s2⟩ := s1
  subst e1 e2
  have s2 : r2 = [] := s2
  subst s2
  refine ⟨by rw [ofL_n]; rfl, fun b q eb => ?_, fun b c o o' q e1 e2 _ _ r1 r2 => ?_, R.tab⟩
  · cases b with
    | zero =>
      obtain rfl : p = q := by simpa using eb
      exact ⟨.lst [.int x, .int y], by rw [ofL_get]; rfl, [v1, v2], hp, ⟨v1, [v2], rfl, q1, ⟨v2, [], rfl, q2, rfl⟩⟩⟩
    | succ b => simp at eb
  · cases b with
    | zero => cases c with
      | zero => rfl
      | succ c => simp at r2
    | succ b => simp at r1
theorem yes_calls (CO : CallsOk T K tl P w mg base C (k + 2)) {dr : Nat} {Dr : Dfn} {Dtr : DT} {fd : FuncData} (eD : T.P.dfns.get dr = some Dr) (eDt : T.dt.get dr = some Dtr) (G : DefOk T K mg base tl Dr Dtr Dtr.lb fd) (fx : Fx T K mg) (hst : Dr.star = false) (hsh : Dr.sh = []) (hps : Dtr.ps.length = 1)
    (hbody : ∀ (x y : Int) (X : Cx) (W : WX) (own : List Nat), X.prog = P → X.w = w → X.K = K → X.mg = mg → X.base = base → CxOk T tl (k + 1) X W Dtr.N Dtr.scope true true Dtr.lb → ∀ (ρ : List Addr) (H : Hp) (σ : L2.St),
      HR T X.K tl own ρ (defStart Dr.cells ([.v (.obj 0)] ++ List.replicate (Dr.ns - 1) .n) (ofL [.lst [.int x, .int y]])).2 H → EnvR T X own ρ (defStart Dr.cells ([.v (.obj 0)] ++ List.replicate (Dr.ns - 1) .n) (ofL [.lst [.int x, .int y]])).2 H (defStart Dr.cells ([.v (.obj 0)] ++ List.replicate (Dr.ns - 1) .n) (ofL [.lst [.int x, .int y]])).1 σ → ∃ t, QSs X Dtr.body t ∧ t (yesD tl) σ H) :
    CallsOk T K tl P w mg base (yesC C dr) (k + 2) := by
  refine ⟨CO.gx, CO.rx, fun d D Dt ks kn hD hDt hk => ?_, fun A outer s H ρ h Q E a d caps p hr hg e0 R hc hp hne q => ?_⟩
  · cases hb : Nat.beq d dr with
    | false =>
      have e1 : yesC C dr d = C d := by
        funext vs caps h
        unfold yesC
        rw [hb]
      have e2 : (fun xs ys h => callDef T.P (yesC C dr) d xs kn ys h) = fun xs ys h => callDef T.P C d xs kn ys h := by
        funext xs ys h
        unfold callDef
        rw [e1]
      rw [e2]
      exact CO.dfn d D Dt ks kn hD hDt hk
    | true =>
      have hdr := Nat.eq_of_beq_eq_true hb
      subst hdr
      rw [eD] at hD
      cases hD
      rw [eDt] at hDt
      cases hDt
      intro A outer s H us ws vs zs xs ys ρ h Q E hr hgd e0 r1 r2 hl R rx ry q
      unfold callDef at q
      rw [eD] at q
      dsimp only at q
      split at q
      case h_2 => exact q.elim
      rename_i vs' hbd
      unfold yesC at q
      rw [hb] at q
      dsimp only at q
      split at q
      case h_2 => exact q.elim
      rename_i a _
      split at q
      case h_2 => exact q.elim
      rename_i x y hpot
      split at q
      case h_2 => exact q.elim
      rename_i hal
      unfold bindA at hbd
      rw [hst, hsh] at hbd
      dsimp only at hbd
      split at hbd
      case h_2 => simp at hbd
      have exs : xs = [.obj a] := Option.some.inj hbd
      subst exs
      have eks : ks = [] := by
        cases ks with
        | nil => rfl
        | cons _ _ => cases hk
      subst eks
      obtain ⟨v1, vr, e1, ⟨p, e2, ep⟩, e3⟩ := rx
      have e3 : vr = [] := e3
      subst e3 e1 e2
      have R0 := pot_hr R hpot ep
      have z := run_yes (us := us) (vs := [.ref p]) (xs := [.obj 0]) (ρ := [p]) (h := ofL [.lst [.int x, .int y]]) G fx hst hr hgd e0 r1 (by rw [hps]; have := r1.length; simpa using this.symm) R0 ⟨_, _, rfl, ⟨p, rfl, rfl⟩, rfl⟩ (hbody x y)
      refine codeAny_mono z fun fl s' hq => ?_
      cases fl with
      | error e =>
        obtain ⟨_, _, _, _, _, _, _, _, _, _, _, _, z⟩ := hq
        exact z.elim
      | ok fl =>
      cases fl with
      | next => exact False.elim hq
      | brk => exact False.elim hq
      | cont => exact False.elim hq
      | ret u =>
        obtain ⟨v, H', os, bare, un, hok', ru, hv, tab⟩ := hq
        refine ⟨v, H', os, bare, un, hok', ru, ?_⟩
        have tp : ∀ p vs, SqT K H p vs → SqT K H' p vs := fun p vs z => by
          rcases z with (r | ⟨o, r⟩) | r
          · exact .inl (.inl (un.tups _ _ r))
          · exact .inl (.inr ⟨o, un.frzs _ _ _ r⟩)
          · exact .inr r
        refine q ρ H' v ⟨List.prefix_refl _, tp, fun b o _ eb fb => ?_⟩ ⟨by rw [OHeap.n_set]; exact R.len, fun b p' eb => ?_, fun b c o o' p' e1 e2 n1 n2 _ _ => ?_, tab⟩ hv
        · rw [OHeap.get_set (OHeap.get_lt hpot)]
          by_cases c : b = a
          · subst c
            rw [hpot] at eb
            cases eb
            cases fb
          · rw [if_neg c]
            exact eb
        · rw [OHeap.get_set (OHeap.get_lt hpot)]
          by_cases c : b = a
          · exact ⟨_, if_pos c, True.intro⟩
          · rw [if_neg c]
            obtain ⟨o, eo, ro⟩ := R.obj b p' eb
            obtain ⟨o2, eo2, lo⟩ := allLoose_ok hal b (OHeap.get_lt eo) c
            rw [eo] at eo2
            cases eo2
            refine ⟨o, eo, ?_⟩
            cases o with
            | rol xs =>
              obtain ⟨vs, rv, rs⟩ := ro
              refine ⟨vs, rv.mono (List.prefix_refl _) tp, ?_⟩
              rcases rs with ⟨oo, rs⟩ | rs
              · exact .inl ⟨oo, un.frzs _ _ _ rs⟩
              · exact .inr rs
            | any => exact True.intro
            | _ => cases lo
        · have key : ∀ {b : Nat} {o : HObj}, (h.set a .any).get b = some o → loose [] b o := fun {b o} eb => by
            rw [OHeap.get_set (OHeap.get_lt hpot)] at eb
            by_cases c : b = a
            · rw [if_pos c] at eb
              cases eb
              exact True.intro
            · rw [if_neg c] at eb
              obtain ⟨o2, eo2, lo⟩ := allLoose_ok hal b (OHeap.get_lt eb) c
              rw [eb] at eo2
              cases eo2
              cases o with
              | rol _ => exact True.intro
              | any => exact True.intro
              | _ => cases lo
          exact absurd (key e1) n1
  · unfold yesC at q
    split at q
    · exact q.elim
    · exact CO.clo A outer s H ρ h Q E a d caps p hr hg e0 R hc hp hne q
end
end Py

/-! The law: two pots. -/
set_option Elab.async false
set_option linter.all false
set_option maxRecDepth 100000
set_option maxHeartbeats 1000000
noncomputable section
namespace Py
open PySem PySem.Spec PyProof.Rows L2
/-- the pot's body -/
def potB : ISs := (.cons (.asg (.name 2) (.ite (.cmp .lt (.loc 1) (.bf .len (.cons (.loc 0) .nil))) (.bf .abs (.cons (.sub (.loc 0) (.loc 1)) .nil)) (.bin .add (.bin .mul (.int 2341) (.loc 1)) (.int 1549)))) (.cons (.ret (.lst (.cons (.bf .max (.cons (.int 0) (.cons (.bin .sub (.loc 2) (.bin .pow (.int 10) (.int 18))) .nil))) (.cons (.bin .add (.bin .mod (.bf .int (.cons (.bin .add (.bin .add (.bin .mul (.bin .mod (.bf .int (.cons (.loc 2) .nil)) (.int 2147483549)) (.int 41473)) (.bin .mul (.int 1549) (.loc 1))) (.int 709)) .nil)) (.int 2147483563)) (.int 1)) .nil)))) .nil))
/-- the law's body -/
def lawB (gp gr : Nat) : ISs := (.cons (.ret (.and (.call gr (.cons (.call gp (.cons (.loc 0) (.cons (.int 0) .nil))) .nil)) (.call gr (.cons (.call gp (.cons (.loc 0) (.cons (.int 1) .nil))) .nil)))) .nil)
section
variable {P : Prog} {C : CallH}
theorem add_ev {fr : Py.Frame} {h : OHeap} {a b : IE} {i j : Int} (ha : evalE P C a fr h = .ok (.int i) h) (hb : evalE P C b fr h = .ok (.int j) h) : evalE P C (.bin .add a b) fr h = .ok (.int (i + j)) h := by
  rw [evalE, ha]
  dsimp only [R.bind]
  rw [hb]
  rfl
theorem subt_ev {fr : Py.Frame} {h : OHeap} {a b : IE} {i j : Int} (ha : evalE P C a fr h = .ok (.int i) h) (hb : evalE P C b fr h = .ok (.int j) h) : evalE P C (.bin .sub a b) fr h = .ok (.int (i - j)) h := by
  rw [evalE, ha]
  dsimp only [R.bind]
  rw [hb]
  rfl
theorem mul_ev {fr : Py.Frame} {h : OHeap} {a b : IE} {i j : Int} (ha : evalE P C a fr h = .ok (.int i) h) (hb : evalE P C b fr h = .ok (.int j) h) (hs : (small i || small j) = true) : evalE P C (.bin .mul a b) fr h = .ok (.int (i * j)) h := by
  rw [evalE, ha]
  dsimp only [R.bind]
  rw [hb]
  dsimp only [R.bind, binop, mulV]
  rw [hs]
theorem mod_ev {fr : Py.Frame} {h : OHeap} {a b : IE} {i j : Int} (ha : evalE P C a fr h = .ok (.int i) h) (hb : evalE P C b fr h = .ok (.int j) h) (hs : decide (0 < j) = true) : evalE P C (.bin .mod a b) fr h = .ok (.int (i % j)) h := by
  rw [evalE, ha]
  dsimp only [R.bind]
  rw [hb]
  dsimp only [R.bind, binop]
  rw [hs]
theorem bf1_ev {fr : Py.Frame} {h : OHeap} {a : IE} {i v : PV} {b : BF} (ha : evalE P C a fr h = .ok i h) (hc : clean i = true) (hb : builtin b [i] h = .ok v h) : evalE P C (.bf b (.cons a .nil)) fr h = .ok v h := by
  rw [evalE, evalEs, ha]
  dsimp only [R.bind]
  rw [hc]
  dsimp only
  rw [evalEs]
  exact hb
theorem int_ev {fr : Py.Frame} {h : OHeap} {i : Int} : evalE P C (.int i) fr h = .ok (.int i) h := by rw [evalE]
theorem pot_ret {h : OHeap} {a : Nat} {k c : Int} : ∃ u v, evalSs P C (.cons (.ret (.lst (.cons (.bf .max (.cons (.int 0) (.cons (.bin .sub (.loc 2) (.bin .pow (.int 10) (.int 18))) .nil))) (.cons (.bin .add (.bin .mod (.bf .int (.cons (.bin .add (.bin .add (.bin .mul (.bin .mod (.bf .int (.cons (.loc 2) .nil)) (.int 2147483549)) (.int 41473)) (.bin .mul (.int 1549) (.loc 1))) (.int 709)) .nil)) (.int 2147483563)) (.int 1)) .nil)))) .nil) [.v (.obj a), .v (.int k), .v (.int c)] h = .rt (.obj h.n) [.v (.obj a), .v (.int k), .v (.int c)] (h.push (.lst [.int u, .int v])) := by
  have l1 : evalE P C (.loc 1) [.v (.obj a), .v (.int k), .v (.int c)] h = .ok (.int k) h := by rw [evalE]; rfl
  have l2 : evalE P C (.loc 2) [.v (.obj a), .v (.int k), .v (.int c)] h = .ok (.int c) h := by rw [evalE]; rfl
  have m1 := mod_ev (bf1_ev (b := .int) l2 rfl (v := .int c) rfl) (int_ev (i := 2147483549)) rfl
  have m2 := mul_ev m1 (int_ev (i := 41473)) (by rw [show small 41473 = true from rfl, Bool.or_true])
  have m3 := mul_ev (int_ev (P := P) (C := C) (i := 1549)) l1 (by rw [show small 1549 = true from rfl, Bool.true_or])
  have m4 := add_ev (add_ev m2 m3) (int_ev (i := 709))
  have m5 := add_ev (mod_ev (bf1_ev (b := .int) m4 rfl (v := .int _) rfl) (int_ev (i := 2147483563)) rfl) (int_ev (i := 1))
  have pw : evalE P C (.bin .pow (.int 10) (.int 18)) [.v (.obj a), .v (.int k), .v (.int c)] h = .ok (.int ((10 : Int) ^ 18)) h := by
    rw [evalE, int_ev]
    dsimp only [R.bind]
    rw [int_ev]
    rfl
  have s1 := subt_ev l2 pw
  have mx : evalE P C (.bf .max (.cons (.int 0) (.cons (.bin .sub (.loc 2) (.bin .pow (.int 10) (.int 18))) .nil))) [.v (.obj a), .v (.int k), .v (.int c)] h = .ok (.int (if c - (10 : Int) ^ 18 > 0 then c - (10 : Int) ^ 18 else 0)) h := by
    rw [evalE, evalEs, int_ev]
    dsimp only [R.bind, clean]
    rw [evalEs, s1]
    dsimp only [R.bind, clean]
    rw [evalEs]
    rfl
  refine ⟨if c - (10 : Int) ^ 18 > 0 then c - (10 : Int) ^ 18 else 0, (c % 2147483549 * 41473 + 1549 * k + 709) % 2147483563 + 1, ?_⟩
  rw [evalSs, evalS, evalE, evalEs, mx]
  dsimp only [R.bind, clean]
  rw [evalEs, m5]
  dsimp only [R.bind, clean]
  rw [evalEs]
  rfl
theorem pot_ev {h : OHeap} {a k : Nat} {ns : List Int} (hp : h.get a = some (.rol (ns.map .int))) : ∃ u v fr', evalSs P C potB [.v (.obj a), .v (.int (.ofNat k)), .n] h = .rt (.obj h.n) fr' (h.push (.lst [.int u, .int v])) := by
  have l0 : evalE P C (.loc 0) [.v (.obj a), .v (.int (.ofNat k)), .n] h = .ok (.obj a) h := by rw [evalE]; rfl
  have l1 : evalE P C (.loc 1) [.v (.obj a), .v (.int (.ofNat k)), .n] h = .ok (.int (.ofNat k)) h := by rw [evalE]; rfl
  have ln : evalE P C (.bf .len (.cons (.loc 0) .nil)) [.v (.obj a), .v (.int (.ofNat k)), .n] h = .ok (.int ns.length) h := bf1_ev l0 rfl (by
    dsimp only [builtin, lenV, elems]
    rw [hp]
    dsimp only
    rw [List.length_map])
  have cm : evalE P C (.cmp .lt (.loc 1) (.bf .len (.cons (.loc 0) .nil))) [.v (.obj a), .v (.int (.ofNat k)), .n] h = .ok (.bl (decide ((Int.ofNat k) < ns.length))) h := by
    rw [evalE, l1]
    dsimp only [R.bind]
    rw [ln]
    rfl
  have key : ∃ c : Int, evalE P C (.ite (.cmp .lt (.loc 1) (.bf .len (.cons (.loc 0) .nil))) (.bf .abs (.cons (.sub (.loc 0) (.loc 1)) .nil)) (.bin .add (.bin .mul (.int 2341) (.loc 1)) (.int 1549))) [.v (.obj a), .v (.int (.ofNat k)), .n] h = .ok (.int c) h := by
    by_cases hl : (Int.ofNat k) < ns.length
    · have hk : k < ns.length := by
        have : (k : Int) < ns.length := hl
        omega
      have sb : evalE P C (.sub (.loc 0) (.loc 1)) [.v (.obj a), .v (.int (.ofNat k)), .n] h = .ok (.int ns[k]) h := by
        rw [evalE, l0]
        dsimp only [R.bind]
        rw [l1]
        dsimp only [R.bind, subscr, elems]
        rw [hp]
        dsimp only [idx]
        rw [List.length_map, show Nat.blt k ns.length = true from Nat.ble_eq.mpr hk]
        dsimp only
        rw [List.getElem?_map, List.getElem?_eq_getElem hk]
        rfl
      have ab := bf1_ev (b := .abs) sb rfl (v := .int _) rfl
      refine ⟨if ns[k] < 0 then -ns[k] else ns[k], ?_⟩
      rw [evalE, cm]
      dsimp only [R.bind, truth]
      rw [decide_eq_true hl]
      exact ab
    · refine ⟨2341 * Int.ofNat k + 1549, ?_⟩
      rw [evalE, cm]
      dsimp only [R.bind, truth]
      rw [decide_eq_false hl]
      exact add_ev (mul_ev int_ev l1 (by rw [show small 2341 = true from rfl, Bool.true_or])) int_ev
  obtain ⟨c, hc⟩ := key
  obtain ⟨u, v, e⟩ := pot_ret (P := P) (C := C) (h := h) (a := a) (k := .ofNat k) (c := c)
  refine ⟨u, v, [.v (.obj a), .v (.int (.ofNat k)), .v (.int c)], ?_⟩
  unfold potB
  rw [evalSs, evalS, hc]
  exact e
theorem law_ev {dp dr gp gr : Nat} {Dp Dr : Dfn} (Zp : Plain P dp 2 3 potB Dp) (hr : P.dfns.get dr = some Dr) (hps : Dr.ps.length = 1) (hst : Dr.star = false) (hsh : Dr.sh = []) (hg : P.globs.get gp = some (.fn dp)) (hgr : P.globs.get gr = some (.fn dr)) (ne : Nat.beq dp dr = false) (n : Nat) (ns : List Int) : ∃ fr' h', evalSs P (yesC (callD P (n + 1)) dr) (lawB gp gr) [.v (.obj 0)] (ofL [.rol (ns.map .int)]) = .rt (.bl true) fr' h' := by
  generalize hC : yesC (callD P (n + 1)) dr = C
  have cap : callable P gp = true := by
    unfold callable
    rw [hg]
    dsimp only
    rw [Zp.at_]
  have car : callable P gr = true := by
    unfold callable
    rw [hgr]
    dsimp only
    rw [hr]
  have pot : ∀ {h : OHeap} {k : Nat}, h.get 0 = some (.rol (ns.map .int)) → ∃ u v, evalE P C (.call gp (.cons (.loc 0) (.cons (.int (.ofNat k)) .nil))) [.v (.obj 0)] h = .ok (.obj h.n) (h.push (.lst [.int u, .int v])) := fun {h k} hp => by
    obtain ⟨u, v, fr', e⟩ := pot_ev (P := P) (C := callD P n) (k := k) hp
    have l0 : evalE P C (.loc 0) [.v (.obj 0)] h = .ok (.obj 0) h := by rw [evalE]; rfl
    refine ⟨u, v, ?_⟩
    rw [evalE, cap]
    dsimp only
    rw [evalEs, l0]
    dsimp only [R.bind, clean]
    rw [evalEs, int_ev]
    dsimp only [R.bind, clean]
    rw [evalEs]
    dsimp only [R.bind]
    unfold callG
    rw [hg]
    dsimp only
    have e2 : callDef P C dp [.obj 0, .int (.ofNat k)] [] [] h = callDef P (callD P (n + 1)) dp [.obj 0, .int (.ofNat k)] [] [] h := by
      have e3 : C dp = callD P (n + 1) dp := by
        rw [← hC]
        funext vs caps h
        unfold yesC
        rw [ne]
      unfold callDef
      rw [e3]
    rw [e2, Zp.call rfl]
    show outV (evalSs P (callD P n) potB [.v (.obj 0), .v (.int (.ofNat k)), .n] h) = _
    rw [e]
    rfl
  have right : ∀ {h : OHeap} {e : IE} {a : Nat} {u v : Int} {h0 : OHeap}, evalE P C e [.v (.obj 0)] h0 = .ok (.obj a) h → h.get a = some (.lst [.int u, .int v]) → allLoose h a h.n = true → evalE P C (.call gr (.cons e .nil)) [.v (.obj 0)] h0 = .ok (.bl true) (h.set a .any) := fun {h e a u v h0} he hp hl => by
    rw [evalE, car]
    dsimp only
    rw [evalEs, he]
    dsimp only [R.bind, clean]
    rw [evalEs]
    dsimp only [R.bind]
    unfold callG
    rw [hgr]
    dsimp only
    unfold callDef
    rw [hr]
    dsimp only
    unfold bindA
    rw [hst, hps]
    dsimp only [List.length_cons, List.length_nil, Nat.beq]
    rw [← hC]
    unfold yesC
    rw [show Nat.beq dr dr = true from Nat.beq_refl _]
    dsimp only
    rw [hp]
    dsimp only
    rw [hl]
  obtain ⟨u1, v1, e1⟩ := pot (h := ofL [.rol (ns.map .int)]) (k := 0) rfl
  have r1 : evalE P C (.call gr (.cons (.call gp (.cons (.loc 0) (.cons (.int 0) .nil))) .nil)) [.v (.obj 0)] (ofL [.rol (ns.map .int)]) = .ok (.bl true) (((ofL [.rol (ns.map .int)]).push (.lst [.int u1, .int v1])).set 1 .any) := right e1 (u := u1) (v := v1) rfl rfl
  obtain ⟨u2, v2, e2⟩ := pot (h := ((ofL [.rol (ns.map .int)]).push (.lst [.int u1, .int v1])).set 1 .any) (k := 1) rfl
  have g2 : ((((ofL [HObj.rol (ns.map .int)]).push (.lst [.int u1, .int v1])).set 1 .any).push (.lst [.int u2, .int v2])).get 2 = some (.lst [.int u2, .int v2]) := by
    rw [OHeap.get_push]
    exact if_pos rfl
  have r2 : evalE P C (.call gr (.cons (.call gp (.cons (.loc 0) (.cons (.int 1) .nil))) .nil)) [.v (.obj 0)] (((ofL [.rol (ns.map .int)]).push (.lst [.int u1, .int v1])).set 1 .any) = .ok (.bl true) (((((ofL [.rol (ns.map .int)]).push (.lst [.int u1, .int v1])).set 1 .any).push (.lst [.int u2, .int v2])).set 2 .any) := right e2 (u := u2) (v := v2) g2 (by kernel_rfl)
  refine ⟨[.v (.obj 0)], ((((ofL [.rol (ns.map .int)]).push (.lst [.int u1, .int v1])).set 1 .any).push (.lst [.int u2, .int v2])).set 2 .any, ?_⟩
  unfold lawB
  rw [evalSs, evalS, evalE, r1]
  dsimp only [R.bind]
  rw [r2]
  rfl
end
end Py

/-! What the law's def does. -/
set_option Elab.async false
set_option linter.all false
set_option maxRecDepth 100000
set_option maxHeartbeats 1000000
noncomputable section
namespace Py
open PySem PySem.Spec PyProof.Rows L2
section
variable {T : Tb} {K : PySem.W.Frag} {base : Heap} {P : Program} {w : World} {mg : Str → Option Value}
theorem law_does {m n dl dp dr gp gr : Nat} {Dl Dr Dp : Dfn} {Dtl Dtr : DT} (G : Tx T K (tlOf T K) P mg base) (Zl : Plain T.P dl 1 1 (lawB gp gr) Dl) (hlt : T.dt.get dl = some Dtl) (Zp : Plain T.P dp 2 3 potB Dp) (eD : T.P.dfns.get dr = some Dr) (eDt : T.dt.get dr = some Dtr) (hst : Dr.star = false) (hsh : Dr.sh = []) (hps : Dtr.ps.length = 1) (hps2 : Dr.ps.length = 1)
    (hg : T.P.globs.get gp = some (.fn dp)) (hgr : T.P.globs.get gr = some (.fn dr)) (ne : Nat.beq dp dr = false)
    (hbody : ∀ (x y : Int) (X : Cx) (W : WX) (own : List Nat), X.prog = P → X.w = w → X.K = K → X.mg = mg → X.base = base → CxOk T (tlOf T K) (2 * m + 1) X W Dtr.N Dtr.scope true true Dtr.lb → ∀ (ρ : List Addr) (H : Hp) (σ : L2.St),
      HR T X.K (tlOf T K) own ρ (defStart Dr.cells ([.v (.obj 0)] ++ List.replicate (Dr.ns - 1) .n) (ofL [.lst [.int x, .int y]])).2 H → EnvR T X own ρ (defStart Dr.cells ([.v (.obj 0)] ++ List.replicate (Dr.ns - 1) .n) (ofL [.lst [.int x, .int y]])).2 H (defStart Dr.cells ([.v (.obj 0)] ++ List.replicate (Dr.ns - 1) .n) (ofL [.lst [.int x, .int y]])).1 σ → ∃ t, QSs X Dtr.body t ∧ t (yesD (tlOf T K)) σ H) :
    LawDoes T K P w mg base (2 * m + 4) n (He.fAd K Dtl.at_) := by
  intro s H a ns hlen hr e0 tab scr
  have CO : CallsOk T K (tlOf T K) P w mg base (callD T.P (m + 1)) (2 * m + 2) := calls_ok (w := w) G (m + 1)
  obtain ⟨fdr, fr_, DOr, _⟩ := G.df dr Dr Dtr eD eDt
  have CO1 := yes_calls CO eD eDt DOr G.fx hst hsh hps hbody
  obtain ⟨fdl, fl_, DOl, hch⟩ := G.df dl Dl Dtl Zl.at_ hlt
  have z := does_def (w := w) (C := yesC (callD T.P (m + 1)) dr) (k := 2 * m + 3) DOl G.fx (fun X W own h1 h2 h3 h4 h5 cx => body_ok (fun d L => (G.lt d L).mpr) CO1 hch X W own h1 h2 h3 h4 h5 cx) (ks := []) (kn := []) rfl
  have R : HR T K (tlOf T K) [] [a] (ofL [.rol (ns.map .int)]) H := by
    refine ⟨by rw [ofL_n]; rfl, fun b q eb => ?_, fun b c o o' q e1 e2 _ _ r1 r2 => ?_, tab⟩
    · cases b with
      | zero =>
        obtain rfl : a = q := by simpa using eb
        refine ⟨.rol (ns.map .int), by rw [ofL_get]; rfl, ns.map V.int, ?_, scr⟩
        clear hlen scr
        induction ns with
        | nil => rfl
        | cons i r ih => exact ⟨_, _, rfl, rfl, ih⟩
      | succ b => simp at eb
    · cases b with
      | zero => cases c with
        | zero => rfl
        | succ c => simp at r2
      | succ b => simp at r1
  refine z callerA [] s H [.ref a] [] [.ref a] [] [.obj 0] [] [a] (ofL [.rol (ns.map .int)]) _ _ hr rfl e0 (.cons rfl .nil) .nil rfl R ⟨_, _, rfl, ⟨a, rfl, rfl⟩, rfl⟩ rfl ?_
  obtain ⟨fr', h', e⟩ := law_ev (P := T.P) Zp eD hps2 hst hsh hg hgr ne m ns
  have ev : evDef T.P (yesC (callD T.P (m + 1)) dr) Dl [] [.obj 0] [] (ofL [.rol (ns.map .int)]) = .ok (.bl true) h' := by
    obtain ⟨ps, star, dfl, sh, ns', cells, body⟩ := Dl
    obtain ⟨h1, h2, h3, h4, h5, h6⟩ := Zl
    dsimp only at h2 h3 h4 h5 h6
    subst h2 h4 h5 h6
    unfold evDef bindA
    dsimp only
    rw [h3]
    show outV (evalSs T.P (yesC (callD T.P (m + 1)) dr) (lawB gp gr) [.v (.obj 0)] (ofL [.rol (ns.map .int)])) = _
    rw [e]
    rfl
  rw [ev]
  exact fun ρ' H' y _ _ r => r
end
end Py

/-! The evaluator once more, by the recursors: one small handler a constructor, for the kernel. -/
set_option Elab.async false
set_option linter.all false
set_option maxRecDepth 100000
set_option maxHeartbeats 1000000
noncomputable section
namespace Py
open PySem
abbrev EV := Frame → OHeap → R PV
structure EVp where
  es : Frame → OHeap → R (List PV)
  ts : Frame → OHeap → R Bool
abbrev EVk := Frame → OHeap → R (List (PV × PV))
abbrev EVt := PV → Frame → OHeap → RS
abbrev EVts := List PV → Frame → OHeap → RS
abbrev EVi := Frame → OHeap → R ID
abbrev ES := Frame → OHeap → RS
abbrev EH := Nat → Frame → OHeap → RS
section
variable (P : Prog) (C : CallH)

def x_non : EV := fun _ h => .ok .non h
def x_bl (b : Bool) : EV := fun _ h => .ok (.bl b) h
def x_int (i : Int) : EV := fun _ h => .ok (.int i) h
def x_str (x : PySem.Str) : EV := fun _ h => .ok (.str x) h
def x_loc (i : Nat) : EV := fun fr h => (match fget fr i h with
    | some v => .ok v h
    | none => .no)
def x_glo (g : Nat) : EV := fun _ h => (match P.globs.get g with
    | some (.val v) => (match flatP v with
      | true => .ok v h
      | false => .no)
    | _ => .no)
def x_bin (op : Bop) (a : IE) (b : IE) (a' : EV) (b' : EV) : EV := fun fr h => (a' fr h).bind fun x h => (b' fr h).bind fun y h => binop op x y h
def x_neg (a : IE) (a' : EV) : EV := fun fr h => (a' fr h).bind fun x h => (match x with
    | .int i => .ok (.int (-i)) h
    | _ => .no)
def x_not (a : IE) (a' : EV) : EV := fun fr h => (a' fr h).bind fun x h => (match x with
    | .bl b => .ok (.bl (!b)) h
    | _ => .no)
def x_cmp (op : Cop) (a : IE) (b : IE) (a' : EV) (b' : EV) : EV := fun fr h => (a' fr h).bind fun x h => (b' fr h).bind fun y h => cmpop P op x y h
def x_chain (o1 : Cop) (o2 : Cop) (a : IE) (b : IE) (c : IE) (a' : EV) (b' : EV) (c' : EV) : EV := fun fr h => (a' fr h).bind fun x h => (b' fr h).bind fun y h => (cmpop P o1 x y h).bind fun t h => (match t with
    | .bl true => (c' fr h).bind fun z h => cmpop P o2 y z h
    | .bl false => .ok (.bl false) h
    | _ => .no)
def x_and (a : IE) (b : IE) (a' : EV) (b' : EV) : EV := fun fr h => (a' fr h).bind fun x h => (match x with
    | .bl true => b' fr h
    | .bl false => .ok (.bl false) h
    | _ => .no)
def x_or (a : IE) (b : IE) (a' : EV) (b' : EV) : EV := fun fr h => (a' fr h).bind fun x h => (match x with
    | .bl false => b' fr h
    | .bl true => .ok (.bl true) h
    | _ => .no)
def x_ite (c : IE) (a : IE) (b : IE) (c' : EV) (a' : EV) (b' : EV) : EV := fun fr h => (c' fr h).bind fun x h => (match truth h x with
    | some true => a' fr h
    | some false => b' fr h
    | none => .no)
def x_tup (es : IEs) (es' : EVp) : EV := fun fr h => (es'.es fr h).bind fun xs h => (match fits xs.length with
    | true => .ok (.tup xs) h
    | false => .no)
def x_lst (es : IEs) (es' : EVp) : EV := fun fr h => (es'.es fr h).bind fun xs h => (match fits xs.length with
    | true => .ok (.obj h.n) (h.push (.lst xs))
    | false => .no)
def x_dic (kvs : IKs) (kvs' : EVk) : EV := fun fr h => (kvs' fr h).bind fun kvs h => .ok (.obj h.n) (h.push (.dct (kvs.foldl (fun d p => dput p.1 p.2 d) []) false))
def x_sub (a : IE) (i : IE) (a' : EV) (i' : EV) : EV := fun fr h => (a' fr h).bind fun x h => (i' fr h).bind fun y h => subscr x y h
def x_sli (a : IE) (lo : IE) (hi : IE) (a' : EV) (lo' : EV) (hi' : EV) : EV := fun fr h => (a' fr h).bind fun x h => (lo' fr h).bind fun l h => (match part lo.isNon l with
    | some l => (hi' fr h).bind fun u h => (match part hi.isNon u with
      | some u => sliced x l u h
      | none => .no)
    | none => .no)
def x_fld (a : IE) (f : Nat) (a' : EV) : EV := fun fr h => (a' fr h).bind fun x h => field P x f h
def x_ccon (g : Nat) (f : Nat) : EV := fun _ h => (match P.globs.get g with
    | some (.cls c) => (match P.clss.get c with
      | some K => (match lookN f K.cons with
        | some v => (match flatP v with
          | true => .ok v h
          | false => .no)
        | none => .no)
      | none => .no)
    | _ => .no)
def x_call (g : Nat) (as : IEs) (as' : EVp) : EV := fun fr h => (match callable P g with
    | true => (as'.es fr h).bind fun xs h => callG P C g xs [] [] h
    | false => .no)
def x_callk (g : Nat) (ks : List Nat) (kv : IEs) (kv' : EVp) : EV := fun fr h => (match callable P g with
    | true => (kv'.es fr h).bind fun ys h => callG P C g [] ks ys h
    | false => .no)
def x_callv (f : IE) (f' : EV) : EV := fun fr h => (f' fr h).bind fun x h => callV P C x h
def x_meth (o : IE) (m : Nat) (as : IEs) (o' : EV) (as' : EVp) : EV := fun fr h => (o' fr h).bind fun x h => (match methOf P m x h with
    | some d => (as'.es fr h).bind fun xs h => callDef P C d (x :: xs) [] [] h
    | none => .no)
def x_isi (e : IE) (cs : List CR) (e' : EV) : EV := fun fr h => (e' fr h).bind fun x h => (match isaAny P h x cs with
    | some b => .ok (.bl b) h
    | none => .no)
def x_bf (b : BF) (as : IEs) (as' : EVp) : EV := fun fr h => (as'.es fr h).bind fun xs h => builtin b xs h
def x_app (o : IE) (e : IE) (o' : EV) (e' : EV) : EV := fun fr h => (o' fr h).bind fun x h => (match items h x with
    | some _ => (e' fr h).bind fun y h => append x y h
    | none => .no)
def x_dget (o : IE) (k : IE) (d : IE) (o' : EV) (k' : EV) (d' : EV) : EV := fun fr h => (o' fr h).bind fun x h => (match isEmptyD h x with
    | true => (k' fr h).bind fun y h => (d' fr h).bind fun z h => dgetV x y z h
    | false => .no)
def x_lam (d : Nat) : EV := fun fr h => (match P.dfns.get d with
    | some D => (match capsOf D.cells fr with
      | some caps => .ok (.obj h.n) (h.push (.clo d caps))
      | none => .no)
    | none => .no)
def x_lc (elt : IE) (tg : IT) (it : II) (ifs : IEs) (own : List Nat) (elt' : EV) (tg' : EVt) (it' : EVi) (ifs' : EVp) : EV := fun fr h => (it' fr h).bind fun d h => (match compL (fun v fr h => tg' v fr h) (fun fr h => ifs'.ts fr h) (fun fr h => elt' fr h) d h.n turns 0 (wipeF own fr) (h.push (.lst [])) with
    | .ok _ h' => .ok (.obj h.n) h'
    | _ => .no)
def x_dc0 (e : IE) (e' : EV) : EV := fun fr h => (e' fr h).bind fun x h => (match x, isEmptyD h x with
    | .obj a, true => .ok (.obj h.n) ((h.set a (.dct [] true)).push (.dct [] false))
    | _, _ => .no)
def x_unk : EV := fun _ _ => .no
def x_nil : EVp := ⟨fun _ h => .ok [] h, fun _ h => .ok true h⟩
def x_cons (e : IE) (es : IEs) (e' : EV) (es' : EVp) : EVp := ⟨fun fr h => (e' fr h).bind fun x h => (match clean x with
    | true => (es'.es fr h).bind fun xs h => .ok (x :: xs) h
    | false => .no), fun fr h => (e' fr h).bind fun x h => (match truth h x with
    | some true => es'.ts fr h
    | some false => .ok false h
    | none => .no)⟩
def x_knil : EVk := fun _ h => .ok [] h
def x_kcons (k v : IE) (r : IKs) (k' v' : EV) (r' : EVk) : EVk := fun fr h => (k' fr h).bind fun x h => (v' fr h).bind fun y h => (match clean x && clean y with
      | true => (r' fr h).bind fun l h => .ok ((x, y) :: l) h
      | false => .no)
def x_tname (i : Nat) : EVt := fun v fr h => (match fput fr i v h with
    | some (fr, h) => .nx fr h
    | none => .no)
def x_ttup (ts : ITs) (ts' : EVts) : EVt := fun v fr h => (match v with
    | .tup xs => (match Nat.beq xs.length ts.len with
      | true => ts' xs fr h
      | false => .no)
    | _ => .no)
def x_tsub (a i : IE) (a' i' : EV) : EVt := fun v fr h => (a' fr h).toS fr fun x h => (i' fr h).toS fr fun y h => (match x, clean v with
    | .obj o, true => (match h.get o, y with
      | some (.lst xs), .int k => (match idx k xs.length with
        | some n => .nx fr (h.set o (.lst (xs.set n v)))
        | none => .no)
      | _, _ => .no)
    | _, _ => .no)
def x_tfld (a : IE) (f : Nat) (a' : EV) : EVt := fun v fr h => (a' fr h).toS fr fun x h => (match x, clean v with
    | .obj o, true => (match h.get o with
      | some (.ins c fs) => (match hasFld P false c f && Nat.blt fs.length 1000 with
        | true => .nx fr (h.set o (.ins c (putN f v fs)))
        | false => .no)
      | _ => .no)
    | _, _ => .no)
def x_tsnil : EVts := fun vs fr h => (match vs with
    | [] => .nx fr h
    | _ => .no)
def x_tscons (t : IT) (ts : ITs) (t' : EVt) (ts' : EVts) : EVts := fun vs fr h => (match vs with
    | x :: xs => (match t' x fr h with
      | .nx fr h => ts' xs fr h
      | .ex e fr h => .ex e fr h
      | _ => .no)
    | [] => .no)
def x_iex (e : IE) (e' : EV) : EVi := fun fr h => (e' fr h).bind fun x h => (match srcOf h x with
    | some s => .ok (.one s) h
    | none => .no)
def x_irng1 (e : IE) (e' : EV) : EVi := fun fr h => (e' fr h).bind fun x h => (match x with
    | .int j => (match bnd62 j with
      | true => .ok (.rng 0 j.toNat) h
      | false => .no)
    | _ => .no)
def x_irng2 (a b : IE) (a' b' : EV) : EVi := fun fr h => (a' fr h).bind fun x h => (b' fr h).bind fun y h => (match x, y with
    | .int i, .int j => (match bnd62 i && bnd62 j with
      | true => .ok (.rng i (j - i).toNat) h
      | false => .no)
    | _, _ => .no)
def x_ienm (e : IE) (e' : EV) : EVi := fun fr h => (e' fr h).bind fun x h => (match srcOf h x with
    | some (.l a) => .ok (.enm a) h
    | _ => .no)
noncomputable def fE (e : IE) : EV := IE.rec (motive_1 := fun _ => EV) (motive_2 := fun _ => EVp) (motive_3 := fun _ => EVk) (motive_4 := fun _ => EVt) (motive_5 := fun _ => EVts) (motive_6 := fun _ => EVi) x_non x_bl x_int x_str x_loc (x_glo P) x_bin x_neg x_not (x_cmp P) (x_chain P) x_and x_or x_ite x_tup x_lst x_dic x_sub x_sli (x_fld P) (x_ccon P) (x_call P C) (x_callk P C) (x_callv P C) (x_meth P C) (x_isi P) x_bf x_app x_dget (x_lam P) x_lc x_dc0 x_unk x_nil x_cons x_knil x_kcons x_tname x_ttup x_tsub (x_tfld P) x_tsnil x_tscons x_iex x_irng1 x_irng2 x_ienm e
noncomputable def fEs (e : IEs) : EVp := IEs.rec (motive_1 := fun _ => EV) (motive_2 := fun _ => EVp) (motive_3 := fun _ => EVk) (motive_4 := fun _ => EVt) (motive_5 := fun _ => EVts) (motive_6 := fun _ => EVi) x_non x_bl x_int x_str x_loc (x_glo P) x_bin x_neg x_not (x_cmp P) (x_chain P) x_and x_or x_ite x_tup x_lst x_dic x_sub x_sli (x_fld P) (x_ccon P) (x_call P C) (x_callk P C) (x_callv P C) (x_meth P C) (x_isi P) x_bf x_app x_dget (x_lam P) x_lc x_dc0 x_unk x_nil x_cons x_knil x_kcons x_tname x_ttup x_tsub (x_tfld P) x_tsnil x_tscons x_iex x_irng1 x_irng2 x_ienm e
noncomputable def fKs (e : IKs) : EVk := IKs.rec (motive_1 := fun _ => EV) (motive_2 := fun _ => EVp) (motive_3 := fun _ => EVk) (motive_4 := fun _ => EVt) (motive_5 := fun _ => EVts) (motive_6 := fun _ => EVi) x_non x_bl x_int x_str x_loc (x_glo P) x_bin x_neg x_not (x_cmp P) (x_chain P) x_and x_or x_ite x_tup x_lst x_dic x_sub x_sli (x_fld P) (x_ccon P) (x_call P C) (x_callk P C) (x_callv P C) (x_meth P C) (x_isi P) x_bf x_app x_dget (x_lam P) x_lc x_dc0 x_unk x_nil x_cons x_knil x_kcons x_tname x_ttup x_tsub (x_tfld P) x_tsnil x_tscons x_iex x_irng1 x_irng2 x_ienm e
noncomputable def fT (e : IT) : EVt := IT.rec (motive_1 := fun _ => EV) (motive_2 := fun _ => EVp) (motive_3 := fun _ => EVk) (motive_4 := fun _ => EVt) (motive_5 := fun _ => EVts) (motive_6 := fun _ => EVi) x_non x_bl x_int x_str x_loc (x_glo P) x_bin x_neg x_not (x_cmp P) (x_chain P) x_and x_or x_ite x_tup x_lst x_dic x_sub x_sli (x_fld P) (x_ccon P) (x_call P C) (x_callk P C) (x_callv P C) (x_meth P C) (x_isi P) x_bf x_app x_dget (x_lam P) x_lc x_dc0 x_unk x_nil x_cons x_knil x_kcons x_tname x_ttup x_tsub (x_tfld P) x_tsnil x_tscons x_iex x_irng1 x_irng2 x_ienm e
noncomputable def fTs (e : ITs) : EVts := ITs.rec (motive_1 := fun _ => EV) (motive_2 := fun _ => EVp) (motive_3 := fun _ => EVk) (motive_4 := fun _ => EVt) (motive_5 := fun _ => EVts) (motive_6 := fun _ => EVi) x_non x_bl x_int x_str x_loc (x_glo P) x_bin x_neg x_not (x_cmp P) (x_chain P) x_and x_or x_ite x_tup x_lst x_dic x_sub x_sli (x_fld P) (x_ccon P) (x_call P C) (x_callk P C) (x_callv P C) (x_meth P C) (x_isi P) x_bf x_app x_dget (x_lam P) x_lc x_dc0 x_unk x_nil x_cons x_knil x_kcons x_tname x_ttup x_tsub (x_tfld P) x_tsnil x_tscons x_iex x_irng1 x_irng2 x_ienm e
noncomputable def fI (e : II) : EVi := II.rec (motive_1 := fun _ => EV) (motive_2 := fun _ => EVp) (motive_3 := fun _ => EVk) (motive_4 := fun _ => EVt) (motive_5 := fun _ => EVts) (motive_6 := fun _ => EVi) x_non x_bl x_int x_str x_loc (x_glo P) x_bin x_neg x_not (x_cmp P) (x_chain P) x_and x_or x_ite x_tup x_lst x_dic x_sub x_sli (x_fld P) (x_ccon P) (x_call P C) (x_callk P C) (x_callv P C) (x_meth P C) (x_isi P) x_bf x_app x_dget (x_lam P) x_lc x_dc0 x_unk x_nil x_cons x_knil x_kcons x_tname x_ttup x_tsub (x_tfld P) x_tsnil x_tscons x_iex x_irng1 x_irng2 x_ienm e
structure EqP (es : IEs) : Prop where
  e1 : evalEs P C es = (fEs P C es).es
  e2 : evalTs P C es = (fEs P C es).ts

theorem fE_all : ∀ e : IE, evalE P C e = fE P C e := by
  refine IE.rec (motive_1 := fun e => evalE P C e = fE P C e) (motive_2 := fun es => EqP P C es) (motive_3 := fun e => evalKs P C e = fKs P C e) (motive_4 := fun e => assignT P C e = fT P C e) (motive_5 := fun e => assignTs P C e = fTs P C e) (motive_6 := fun e => evalI P C e = fI P C e) ?_ ?_ ?_ ?_ ?_ ?_ ?_ ?_ ?_ ?_ ?_ ?_ ?_ ?_ ?_ ?_ ?_ ?_ ?_ ?_ ?_ ?_ ?_ ?_ ?_ ?_ ?_ ?_ ?_ ?_ ?_ ?_ ?_ ?_ ?_ ?_ ?_ ?_ ?_ ?_ ?_ ?_ ?_ ?_ ?_ ?_ ?_
  · funext fr h
    rw [evalE]
    rfl
  · intro b 
    funext fr h
    rw [evalE]
    rfl
  · intro i 
    funext fr h
    rw [evalE]
    rfl
  · intro x 
    funext fr h
    rw [evalE]
    rfl
  · intro i 
    funext fr h
    rw [evalE]
    rfl
  · intro g 
    funext fr h
    rw [evalE]
    rfl
  · intro op a b i_a i_b
    funext fr h
    rw [evalE]
    try rw [i_a]
    try rw [i_b]
    rfl
  · intro a i_a
    funext fr h
    rw [evalE]
    try rw [i_a]
    rfl
  · intro a i_a
    funext fr h
    rw [evalE]
    try rw [i_a]
    rfl
  · intro op a b i_a i_b
    funext fr h
    rw [evalE]
    try rw [i_a]
    try rw [i_b]
    rfl
  · intro o1 o2 a b c i_a i_b i_c
    funext fr h
    rw [evalE]
    try rw [i_a]
    try rw [i_b]
    try rw [i_c]
    rfl
  · intro a b i_a i_b
    funext fr h
    rw [evalE]
    try rw [i_a]
    try rw [i_b]
    rfl
  · intro a b i_a i_b
    funext fr h
    rw [evalE]
    try rw [i_a]
    try rw [i_b]
    rfl
  · intro c a b i_c i_a i_b
    funext fr h
    rw [evalE]
    try rw [i_c]
    try rw [i_a]
    try rw [i_b]
    rfl
  · intro es i_es
    funext fr h
    rw [evalE]
    try rw [(i_es).e1]
    try rw [(i_es).e2]
    rfl
  · intro es i_es
    funext fr h
    rw [evalE]
    try rw [(i_es).e1]
    try rw [(i_es).e2]
    rfl
  · intro kvs i_kvs
    funext fr h
    rw [evalE]
    try rw [i_kvs]
    rfl
  · intro a i i_a i_i
    funext fr h
    rw [evalE]
    try rw [i_a]
    try rw [i_i]
    rfl
  · intro a lo hi i_a i_lo i_hi
    funext fr h
    rw [evalE]
    try rw [i_a]
    try rw [i_lo]
    try rw [i_hi]
    rfl
  · intro a f i_a
    funext fr h
    rw [evalE]
    try rw [i_a]
    rfl
  · intro g f 
    funext fr h
    rw [evalE]
    rfl
  · intro g as i_as
    funext fr h
    rw [evalE]
    try rw [(i_as).e1]
    try rw [(i_as).e2]
    rfl
  · intro g ks kv i_kv
    funext fr h
    rw [evalE]
    try rw [(i_kv).e1]
    try rw [(i_kv).e2]
    rfl
  · intro f i_f
    funext fr h
    rw [evalE]
    try rw [i_f]
    rfl
  · intro o m as i_o i_as
    funext fr h
    rw [evalE]
    try rw [i_o]
    try rw [(i_as).e1]
    try rw [(i_as).e2]
    rfl
  · intro e cs i_e
    funext fr h
    rw [evalE]
    try rw [i_e]
    rfl
  · intro b as i_as
    funext fr h
    rw [evalE]
    try rw [(i_as).e1]
    try rw [(i_as).e2]
    rfl
  · intro o e i_o i_e
    funext fr h
    rw [evalE]
    try rw [i_o]
    try rw [i_e]
    rfl
  · intro o k d i_o i_k i_d
    funext fr h
    rw [evalE]
    try rw [i_o]
    try rw [i_k]
    try rw [i_d]
    rfl
  · intro d 
    funext fr h
    rw [evalE]
    rfl
  · intro elt tg it ifs own i_elt i_tg i_it i_ifs
    funext fr h
    rw [evalE]
    try rw [i_elt]
    try rw [i_tg]
    try rw [i_it]
    try rw [(i_ifs).e1]
    try rw [(i_ifs).e2]
    rfl
  · intro e i_e
    funext fr h
    rw [evalE]
    try rw [i_e]
    rfl
  · funext fr h
    rw [evalE]
    rfl
  · exact ⟨by funext fr h; rw [evalEs]; rfl, by funext fr h; rw [evalTs.eq_def]; rfl⟩
  · intro e es i_e i_es
    exact ⟨by funext fr h; rw [evalEs, i_e, i_es.e1]; rfl, by funext fr h; rw [evalTs.eq_def]; dsimp only; rw [i_e, i_es.e2]; rfl⟩
  · funext fr h
    rw [evalKs]
    rfl
  · intro k v r i_k i_v i_r
    funext fr h
    rw [evalKs]
    try rw [i_k]
    try rw [i_v]
    try rw [i_r]
    rfl
  · intro i 
    funext v fr h
    rw [assignT.eq_def]
    dsimp only
    rfl
  · intro ts i_ts
    funext v fr h
    rw [assignT.eq_def]
    dsimp only
    try rw [i_ts]
    rfl
  · intro a i i_a i_i
    funext v fr h
    rw [assignT.eq_def]
    dsimp only
    try rw [i_a]
    try rw [i_i]
    rfl
  · intro a f i_a
    funext v fr h
    rw [assignT.eq_def]
    dsimp only
    try rw [i_a]
    rfl
  · funext vs fr h
    rw [assignTs.eq_def]
    dsimp only
    rfl
  · intro t ts i_t i_ts
    funext vs fr h
    rw [assignTs.eq_def]
    dsimp only
    try rw [i_t]
    try rw [i_ts]
    rfl
  · intro e i_e
    funext fr h
    rw [evalI]
    try rw [i_e]
    rfl
  · intro e i_e
    funext fr h
    rw [evalI]
    try rw [i_e]
    rfl
  · intro a b i_a i_b
    funext fr h
    rw [evalI]
    try rw [i_a]
    try rw [i_b]
    rfl
  · intro e i_e
    funext fr h
    rw [evalI]
    try rw [i_e]
    rfl
end
end Py

/-! Statements and calls, by the recursors. -/
set_option Elab.async false
set_option linter.all false
set_option maxRecDepth 100000
set_option maxHeartbeats 1000000
namespace Py
open PySem
section
variable (P : Prog) (C : CallH)

noncomputable def y_expr (e : IE) : ES := fun fr h => (fE P C e fr h).toS fr fun _ h => .nx fr h
noncomputable def y_asg (t : IT) (e : IE) : ES := fun fr h => (fE P C e fr h).toS fr fun x h => (match clean x with
    | true => fT P C t x fr h
    | false => .no)
noncomputable def y_asg2 (t : IT) (u : IT) (e : IE) : ES := fun fr h => (fE P C e fr h).toS fr fun x h => (match clean x with
    | true => (match fT P C t x fr h with
      | .nx fr h => fT P C u x fr h
      | _ => .no)
    | false => .no)
noncomputable def y_aug (t : IT) (op : Bop) (e : IE) : ES := fun fr h => (match t with
    | .name i => (match fget fr i h with
      | some x => (fE P C e fr h).toS fr fun y h => (match x, y with
        | .int _, .int _ => (binop op x y h).toS fr fun z h => (match fput fr i z h with
          | some (fr, h) => .nx fr h
          | none => .no)
        | _, _ => .no)
      | none => .no)
    | _ => .no)
noncomputable def y_ret (e : IE) : ES := fun fr h => (fE P C e fr h).toS fr fun x h => (match clean x with
    | true => .rt x fr h
    | false => .no)
noncomputable def y_retN : ES := fun fr h => .rt .non fr h
noncomputable def y_ite (c : IE) (a : ISs) (b : ISs) (a' : ES) (b' : ES) : ES := fun fr h => (fE P C c fr h).toS fr fun x h => (match truth h x with
    | some true => a' fr h
    | some false => b' fr h
    | none => .no)
noncomputable def y_for_ (t : IT) (it : II) (b : ISs) (b' : ES) : ES := fun fr h => (fI P C it fr h).toS fr fun d h => forL (fun v fr h => fT P C t v fr h) (fun fr h => b' fr h) d turns 0 fr h
noncomputable def y_brk : ES := fun fr h => .bk fr h
noncomputable def y_cnt : ES := fun fr h => .ct fr h
noncomputable def y_pass : ES := fun fr h => .nx fr h
noncomputable def y_raise (g : Nat) (as : IEs) : ES := fun fr h => ((fEs P C as).es fr h).toS fr fun xs h => (match P.globs.get g with
    | some (.cls c) => (match excMake P c xs h with
      | some h' => .ex h.n fr h'
      | none => .no)
    | _ => .no)
noncomputable def y_try_ (b : ISs) (hs : IHs) (b' : ES) (hs' : EH) : ES := fun fr h => (match b' fr h with
    | .ex e fr h => hs' e fr h
    | r => r)
noncomputable def y_unk : ES := fun _ _ => .no
noncomputable def y_nil : ES := fun fr h => .nx fr h
noncomputable def y_cons (s : IS) (ss : ISs) (s' : ES) (ss' : ES) : ES := fun fr h => (match s' fr h with
    | .nx fr h => ss' fr h
    | r => r)
noncomputable def y_hnil : EH := fun e fr h => .ex e fr h
noncomputable def y_hcons (g i : Nat) (b : ISs) (hs : IHs) (b' : ES) (hs' : EH) : EH := fun e fr h => (match h.get e with
    | some (.exc c _) => (match takes P c g with
      | some true => (match slotFree fr i with
        | true => (match b' (fr.set i (.v (.exv e))) h with
          | .nx fr h => (match cleanF (fr.set i .n) with
            | true => .nx (fr.set i .n) h
            | false => .no)
          | _ => .no)
        | false => .no)
      | some false => hs' e fr h
      | none => .no)
    | _ => .no)
noncomputable def fS (e : IS) : ES := IS.rec (motive_1 := fun _ => ES) (motive_2 := fun _ => ES) (motive_3 := fun _ => EH) (y_expr P C) (y_asg P C) (y_asg2 P C) (y_aug P C) (y_ret P C) y_retN (y_ite P C) (y_for_ P C) y_brk y_cnt y_pass (y_raise P C) y_try_ y_unk y_nil y_cons y_hnil (y_hcons P) e
noncomputable def fSs (e : ISs) : ES := ISs.rec (motive_1 := fun _ => ES) (motive_2 := fun _ => ES) (motive_3 := fun _ => EH) (y_expr P C) (y_asg P C) (y_asg2 P C) (y_aug P C) (y_ret P C) y_retN (y_ite P C) (y_for_ P C) y_brk y_cnt y_pass (y_raise P C) y_try_ y_unk y_nil y_cons y_hnil (y_hcons P) e
noncomputable def fHs (e : IHs) : EH := IHs.rec (motive_1 := fun _ => ES) (motive_2 := fun _ => ES) (motive_3 := fun _ => EH) (y_expr P C) (y_asg P C) (y_asg2 P C) (y_aug P C) (y_ret P C) y_retN (y_ite P C) (y_for_ P C) y_brk y_cnt y_pass (y_raise P C) y_try_ y_unk y_nil y_cons y_hnil (y_hcons P) e
theorem fEs_all (es : IEs) : evalEs P C es = (fEs P C es).es := by
  induction es using IEs.rec (motive_1 := fun _ => True) (motive_3 := fun _ => True) (motive_4 := fun _ => True) (motive_5 := fun _ => True) (motive_6 := fun _ => True) with
  | nil => funext fr h; rw [evalEs]; rfl
  | cons e es _ ih => funext fr h; rw [evalEs, fE_all, ih]; rfl
  | _ => trivial
theorem fI_all (i : II) : evalI P C i = fI P C i := by
  cases i with
  | _ => funext fr h; rw [evalI]; (try rw [fE_all]); (try rw [fE_all]); rfl
mutual
theorem fT_both : ∀ t : IT, assignT P C t = fT P C t
  | .name i => by funext v fr h; rw [assignT.eq_def]; rfl
  | .tup ts => by funext v fr h; rw [assignT.eq_def]; dsimp only; rw [fTs_both ts]; rfl
  | .sub a i => by funext v fr h; rw [assignT.eq_def]; dsimp only; rw [fE_all, fE_all]; rfl
  | .fld a f => by funext v fr h; rw [assignT.eq_def]; dsimp only; rw [fE_all]; rfl
theorem fTs_both : ∀ t : ITs, assignTs P C t = fTs P C t
  | .nil => by funext v fr h; rw [assignTs.eq_def]; rfl
  | .cons t ts => by funext v fr h; rw [assignTs.eq_def]; dsimp only; rw [fT_both t, fTs_both ts]; rfl
end

theorem fSs_go (key : ∀ s : IS, evalS P C s = fS P C s) : ∀ s : ISs, evalSs P C s = fSs P C s
  | .nil => by funext fr h; rw [evalSs.eq_def]; rfl
  | .cons s ss => by funext fr h; rw [evalSs.eq_def]; dsimp only; rw [key, fSs_go key ss]; rfl
theorem fHs_go (key : ∀ s : ISs, evalSs P C s = fSs P C s) : ∀ s : IHs, evalHs P C s = fHs P C s
  | .nil => by funext e fr h; rw [evalHs.eq_def]; rfl
  | .cons g i b hs => by funext e fr h; rw [evalHs.eq_def]; dsimp only; rw [key, fHs_go key hs]; rfl

theorem fS_all : (∀ s : IS, evalS P C s = fS P C s) ∧ (∀ s : ISs, evalSs P C s = fSs P C s) ∧ (∀ s : IHs, evalHs P C s = fHs P C s) := by
  have key : ∀ s : IS, evalS P C s = fS P C s := by
    refine IS.rec (motive_1 := fun s => evalS P C s = fS P C s) (motive_2 := fun s => evalSs P C s = fSs P C s) (motive_3 := fun s => evalHs P C s = fHs P C s) ?_ ?_ ?_ ?_ ?_ ?_ ?_ ?_ ?_ ?_ ?_ ?_ ?_ ?_ ?_ ?_ ?_ ?_
    · intro e 
      funext fr h
      rw [evalS.eq_def]
      dsimp only
      try simp only [fE_all, fEs_all, fI_all, fT_both]
      rfl
    · intro t e 
      funext fr h
      rw [evalS.eq_def]
      dsimp only
      try simp only [fE_all, fEs_all, fI_all, fT_both]
      rfl
    · intro t u e 
      funext fr h
      rw [evalS.eq_def]
      dsimp only
      try simp only [fE_all, fEs_all, fI_all, fT_both]
      rfl
    · intro t op e 
      funext fr h
      rw [evalS.eq_def]
      dsimp only
      try simp only [fE_all, fEs_all, fI_all, fT_both]
      rfl
    · intro e 
      funext fr h
      rw [evalS.eq_def]
      dsimp only
      try simp only [fE_all, fEs_all, fI_all, fT_both]
      rfl
    · skip
      funext fr h
      rw [evalS.eq_def]
      dsimp only
      try simp only [fE_all, fEs_all, fI_all, fT_both]
      rfl
    · intro c a b i_a i_b
      funext fr h
      rw [evalS.eq_def]
      dsimp only
      try rw [i_a]
      try rw [i_b]
      try simp only [fE_all, fEs_all, fI_all, fT_both]
      rfl
    · intro t it b i_b
      funext fr h
      rw [evalS.eq_def]
      dsimp only
      try rw [i_b]
      try simp only [fE_all, fEs_all, fI_all, fT_both]
      rfl
    · skip
      funext fr h
      rw [evalS.eq_def]
      dsimp only
      try simp only [fE_all, fEs_all, fI_all, fT_both]
      rfl
    · skip
      funext fr h
      rw [evalS.eq_def]
      dsimp only
      try simp only [fE_all, fEs_all, fI_all, fT_both]
      rfl
    · skip
      funext fr h
      rw [evalS.eq_def]
      dsimp only
      try simp only [fE_all, fEs_all, fI_all, fT_both]
      rfl
    · intro g as 
      funext fr h
      rw [evalS.eq_def]
      dsimp only
      try simp only [fE_all, fEs_all, fI_all, fT_both]
      rfl
    · intro b hs i_b i_hs
      funext fr h
      rw [evalS.eq_def]
      dsimp only
      try rw [i_b]
      try rw [i_hs]
      try simp only [fE_all, fEs_all, fI_all, fT_both]
      rfl
    · skip
      funext fr h
      rw [evalS.eq_def]
      dsimp only
      try simp only [fE_all, fEs_all, fI_all, fT_both]
      rfl
    · funext fr h; rw [evalSs.eq_def]; rfl
    · intro s ss i1 i2; funext fr h; rw [evalSs.eq_def]; dsimp only; rw [i1, i2]; rfl
    · funext e fr h; rw [evalHs.eq_def]; rfl
    · intro g i b hs i1 i2; funext e fr h; rw [evalHs.eq_def]; dsimp only; rw [i1, i2]; rfl
  have k3 : ∀ s : ISs, evalSs P C s = fSs P C s := fSs_go P C key
  exact ⟨key, k3, fHs_go P C k3⟩
noncomputable def y_call : CallH := fun d vs caps h => match P.dfns.get d with
    | some D => (match caps with
      | [] => (match fSs P C D.body (defStart D.cells (vs.map .v ++ List.replicate (D.ns - vs.length) .n) h).1 (defStart D.cells (vs.map .v ++ List.replicate (D.ns - vs.length) .n) h).2 with
        | .rt v _ h' => .ok v h'
        | .nx _ h' => .ok .non h'
        | .ex e _ h' => (match D.cells with
          | [] => .ex e h'
          | _ => .no)
        | _ => .no)
      | _ => (match D.body with
        | .cons (.ret e) .nil => (match vs with
          | [] => (match capsGood h caps with
            | true => (fE P C e (putCaps caps (List.replicate D.ns .n)) h).bind fun v h => (match clean v with
              | true => .ok v h
              | false => .no)
            | false => .no)
          | _ => .no)
        | _ => .no))
    | none => .no
noncomputable def callF (n : Nat) : CallH := Nat.rec (motive := fun _ => CallH) (fun _ _ _ _ => .no) (fun _ C => y_call P C) n
theorem callF_all (n : Nat) : callD P n = callF P n := by
  induction n with
  | zero => rfl
  | succ n ih =>
    show callD P (n + 1) = y_call P (callF P n)
    rw [← ih]
    funext d vs caps h
    unfold y_call
    simp only [← fE_all, ← (fS_all P (callD P n)).2.1]
    rfl
end
end Py

/-! The hot handlers, made cheap for the kernel. -/
set_option Elab.async false
set_option linter.all false
set_option maxRecDepth 100000
set_option maxHeartbeats 1000000
noncomputable section
namespace Py
open PySem
noncomputable section
def nthS (l : Frame) : Nat → Option Slot := List.rec (motive := fun _ => Nat → Option Slot) (fun _ => none) (fun a _ ih i => Nat.rec (motive := fun _ => Option Slot) (some a) (fun j _ => ih j) i) l
def setS (l : Frame) : Nat → Slot → Frame := List.rec (motive := fun _ => Nat → Slot → Frame) (fun _ _ => []) (fun a as ih i x => Nat.rec (motive := fun _ => Frame) (x :: as) (fun j _ => a :: ih j x) i) l
def nthP (l : List PV) : Nat → Option PV := List.rec (motive := fun _ => Nat → Option PV) (fun _ => none) (fun a _ ih i => Nat.rec (motive := fun _ => Option PV) (some a) (fun j _ => ih j) i) l
theorem nthS_eq : ∀ (l : Frame) (i : Nat), nthS l i = l[i]?
  | [], i => by simp; rfl
  | a :: l, 0 => rfl
  | a :: l, i + 1 => by
    show nthS l i = _
    rw [nthS_eq l i]
    simp
theorem nthP_eq : ∀ (l : List PV) (i : Nat), nthP l i = l[i]?
  | [], i => by simp; rfl
  | a :: l, 0 => rfl
  | a :: l, i + 1 => by
    show nthP l i = _
    rw [nthP_eq l i]
    simp
theorem setS_eq : ∀ (l : Frame) (i : Nat) (x : Slot), setS l i x = l.set i x
  | [], i, x => rfl
  | a :: l, 0, x => rfl
  | a :: l, i + 1, x => by
    show a :: setS l i x = _
    rw [setS_eq l i x]
    rfl
def bR {α β : Type} (r : R α) (k : α → OHeap → R β) : R β := R.rec (motive := fun _ => R β) k (fun e h => .ex e h) .no r
theorem bR_eq {α β : Type} (r : R α) (k : α → OHeap → R β) : bR r k = r.bind k := by cases r <;> rfl
def tZ {α : Type} (r : R α) (fr : Frame) (k : α → OHeap → RS) : RS := R.rec (motive := fun _ => RS) k (fun e h => .ex e fr h) .no r
theorem tZ_eq {α : Type} (r : R α) (fr : Frame) (k : α → OHeap → RS) : tZ r fr k = r.toS fr k := by cases r <;> rfl
def cB {α : Type} (b : Bool) (x y : α) : α := Bool.rec (motive := fun _ => α) y x b
def cleanZ (x : PV) : Bool := PV.casesOn (motive_1 := fun _ => Bool) x true (fun _ => true) (fun _ => true) (fun _ => true) (fun _ => true) (fun _ => true) (fun _ => true) (fun _ => false)
theorem cleanZ_eq (x : PV) : cleanZ x = clean x := by cases x <;> rfl
def seqZ (r : RS) (k : Frame → OHeap → RS) : RS := RS.rec (motive := fun _ => RS) k (fun v fr h => .rt v fr h) (fun fr h => .bk fr h) (fun fr h => .ct fr h) (fun e fr h => .ex e fr h) .no r
theorem seqZ_eq (r : RS) (k : Frame → OHeap → RS) : seqZ r k = (match r with
    | .nx fr h => k fr h
    | r => r) := by cases r <;> rfl
def oZ {α β : Type} (o : Option α) (n : β) (k : α → β) : β := Option.rec (motive := fun _ => β) n k o
def blZ (x : PV) (t f n : R PV) : R PV := PV.casesOn (motive_1 := fun _ => R PV) x n (fun b => cB b t f) (fun _ => n) (fun _ => n) (fun _ => n) (fun _ => n) (fun _ => n) (fun _ => n)
def q_cons (e : IE) (es : IEs) (e' : EV) (es' : EVp) : EVp := ⟨fun fr h => bR (e' fr h) fun x h => cB (cleanZ x) (bR (es'.es fr h) fun xs h => .ok (x :: xs) h) .no, fun fr h => bR (e' fr h) fun x h => (match truth h x with
    | some true => es'.ts fr h
    | some false => .ok false h
    | none => .no)⟩
theorem q_cons_eq (e : IE) (es : IEs) (e' : EV) (es' : EVp) : q_cons e es e' es' = x_cons e es e' es' := by
  unfold q_cons x_cons
  simp only [bR_eq, cleanZ_eq]
  congr 1
  funext fr h
  congr 1
  funext x h
  cases clean x <;> rfl
def q_and (a b : IE) (a' b' : EV) : EV := fun fr h => bR (a' fr h) fun x h => blZ x (b' fr h) (.ok (.bl false) h) .no
theorem q_and_eq (a b : IE) (a' b' : EV) : q_and a b a' b' = x_and a b a' b' := by
  funext fr h
  unfold q_and x_and
  simp only [bR_eq]
  congr 1
  funext x h
  cases x with
  | bl b => cases b <;> rfl
  | _ => rfl
def q_or (a b : IE) (a' b' : EV) : EV := fun fr h => bR (a' fr h) fun x h => blZ x (.ok (.bl true) h) (b' fr h) .no
theorem q_or_eq (a b : IE) (a' b' : EV) : q_or a b a' b' = x_or a b a' b' := by
  funext fr h
  unfold q_or x_or
  simp only [bR_eq]
  congr 1
  funext x h
  cases x with
  | bl b => cases b <;> rfl
  | _ => rfl
def truthZ (h : OHeap) (x : PV) : Option Bool := PV.casesOn (motive_1 := fun _ => Option Bool) x (some false) (fun b => some b) (fun i => truth h (.int i)) (fun s => truth h (.str s)) (fun a => truth h (.obj a)) (fun g => truth h (.glo g)) (fun xs => truth h (.tup xs)) (fun e => truth h (.exv e))
theorem truthZ_eq (h : OHeap) (x : PV) : truthZ h x = truth h x := by cases x <;> rfl
def q_ite (c a b : IE) (c' a' b' : EV) : EV := fun fr h => bR (c' fr h) fun x h => oZ (truthZ h x) .no fun t => cB t (a' fr h) (b' fr h)
theorem q_ite_eq (c a b : IE) (c' a' b' : EV) : q_ite c a b c' a' b' = x_ite c a b c' a' b' := by
  funext fr h
  unfold q_ite x_ite
  simp only [bR_eq, truthZ_eq]
  congr 1
  funext x h
  cases truth h x with
  | none => rfl
  | some t => cases t <;> rfl
def addZ : Int → Int → Int
  | .ofNat a, .ofNat b => .ofNat (Nat.add a b)
  | x, y => x + y
def ltZ : Int → Int → Bool
  | .ofNat a, .ofNat b => Nat.blt a b
  | .negSucc a, .negSucc b => Nat.blt b a
  | .ofNat _, .negSucc _ => false
  | .negSucc _, .ofNat _ => true
theorem addZ_eq (x y : Int) : addZ x y = x + y := by
  cases x <;> cases y <;> rfl
theorem ltZ_eq (x y : Int) : ltZ x y = decide (x < y) := by
  rw [Bool.eq_iff_iff, decide_eq_true_iff]
  cases x with
  | ofNat a => cases y with
    | ofNat b =>
      show Nat.blt a b = true ↔ _
      rw [show (Nat.blt a b = true) = (a < b) from Nat.ble_eq]
      exact Int.ofNat_lt.symm
    | negSucc b =>
      show false = true ↔ _
      constructor
      · intro h; cases h
      · intro h; have : (Int.ofNat a) = a := rfl; omega
  | negSucc a => cases y with
    | ofNat b =>
      show true = true ↔ _
      refine ⟨fun _ => ?_, fun _ => rfl⟩
      have : (Int.ofNat b) = b := rfl
      omega
    | negSucc b =>
      show Nat.blt b a = true ↔ _
      rw [show (Nat.blt b a = true) = (b < a) from Nat.ble_eq]
      omega
theorem leZ_eq (x y : Int) : (!ltZ y x) = decide (x ≤ y) := by
  rw [ltZ_eq, ← decide_not]
  exact decide_eq_decide.mpr (by omega)
def fgetZ (fr : Frame) (i : Nat) (h : OHeap) : Option PV := match nthS fr i with
  | some (.v x) => some x
  | some (.c a) => (match h.get a with
    | some (.cell v) => v
    | _ => none)
  | _ => none
theorem fgetZ_eq : fgetZ = fget := by
  funext fr i h
  unfold fgetZ fget
  rw [nthS_eq]
  all_goals rfl
def fputZ (fr : Frame) (i : Nat) (v : PV) (h : OHeap) : Option (Frame × OHeap) := match nthS fr i with
  | some (.c a) => (match clean v with
    | true => some (fr, h.set a (.cell (some v)))
    | false => none)
  | some _ => some (setS fr i (.v v), h)
  | none => none
theorem fputZ_eq : fputZ = fput := by
  funext fr i v h
  unfold fputZ fput
  rw [nthS_eq, setS_eq]
  all_goals rfl
def q_loc (i : Nat) : EV := fun fr h => (match fgetZ fr i h with
    | some v => .ok v h
    | none => .no)
theorem q_loc_eq (i : Nat) : q_loc i = x_loc i := by
  unfold q_loc x_loc
  rw [fgetZ_eq]
  all_goals rfl
def q_tname (i : Nat) : EVt := fun v fr h => (match fputZ fr i v h with
    | some (fr, h) => .nx fr h
    | none => .no)
theorem q_tname_eq (i : Nat) : q_tname i = x_tname i := by
  unfold q_tname x_tname
  rw [fputZ_eq]
  all_goals rfl
def cmpZ (P : Prog) (op : Cop) (x y : PV) (h : OHeap) : R PV :=
  match op with
  | .lt => (match x, y with
    | .int i, .int j => .ok (.bl (ltZ i j)) h
    | _, _ => .no)
  | .le => (match x, y with
    | .int i, .int j => .ok (.bl (!ltZ j i)) h
    | _, _ => .no)
  | .gt => (match x, y with
    | .int i, .int j => .ok (.bl (ltZ j i)) h
    | _, _ => .no)
  | .ge => (match x, y with
    | .int i, .int j => .ok (.bl (!ltZ i j)) h
    | _, _ => .no)
  | op => cmpop P op x y h
theorem cmpZ_eq (P : Prog) : cmpZ P = cmpop P := by
  funext op x y h
  cases op <;> first | rfl | (cases x <;> cases y <;> first | rfl | (unfold cmpZ cmpop; dsimp only; rw [leZ_eq]) | (unfold cmpZ cmpop; dsimp only; rw [ltZ_eq]))
def q_cmp (P : Prog) (op : Cop) (a b : IE) (a' : EV) (b' : EV) : EV := fun fr h => bR (a' fr h) fun x h => bR (b' fr h) fun y h => cmpZ P op x y h
theorem q_cmp_eq (P : Prog) (op : Cop) (a b : IE) (a' : EV) (b' : EV) : q_cmp P op a b a' b' = x_cmp P op a b a' b' := by
  unfold q_cmp x_cmp
  try simp only [bR_eq, tZ_eq]
  rw [cmpZ_eq]
def binZ (op : Bop) (x y : PV) (h : OHeap) : R PV :=
  match op, x, y with
  | .add, .int i, .int j => .ok (.int (addZ i j)) h
  | op, x, y => binop op x y h
theorem binZ_eq : binZ = binop := by
  funext op x y h
  cases op <;> cases x <;> cases y <;> first | rfl | (unfold binZ; simp only [addZ_eq]; rfl)
def q_bin (op : Bop) (a b : IE) (a' : EV) (b' : EV) : EV := fun fr h => bR (a' fr h) fun x h => bR (b' fr h) fun y h => binZ op x y h
theorem q_bin_eq (op : Bop) (a b : IE) (a' : EV) (b' : EV) : q_bin op a b a' b' = x_bin op a b a' b' := by
  unfold q_bin x_bin
  try simp only [bR_eq, tZ_eq]
  rw [binZ_eq]
def lenZ (l : List PV) : Nat := List.rec (motive := fun _ => Nat) 0 (fun _ _ ih => Nat.succ ih) l
theorem lenZ_eq : ∀ l : List PV, lenZ l = l.length
  | [] => rfl
  | a :: l => congrArg Nat.succ (lenZ_eq l)
def setP (l : List PV) : Nat → PV → List PV := List.rec (motive := fun _ => Nat → PV → List PV) (fun _ _ => []) (fun a as ih i x => Nat.rec (motive := fun _ => List PV) (x :: as) (fun j _ => a :: ih j x) i) l
theorem setP_eq : ∀ (l : List PV) (i : Nat) (x : PV), setP l i x = l.set i x
  | [], i, x => rfl
  | a :: l, 0, x => rfl
  | a :: l, i + 1, x => by
    show a :: setP l i x = _
    rw [setP_eq l i x]
    rfl
def appZ (l : List PV) (v : PV) : List PV := List.rec (motive := fun _ => List PV) [v] (fun a _ ih => a :: ih) l
theorem appZ_eq : ∀ (l : List PV) (v : PV), appZ l v = l ++ [v]
  | [], v => rfl
  | a :: l, v => congrArg (a :: ·) (appZ_eq l v)
def emitZ (D : Nat) (y : PV) (h : OHeap) : R Unit := match h.get D, clean y with
  | some (.lst xs), true => (match fits (Nat.succ (lenZ xs)) with
    | true => .ok () (h.set D (.lst (appZ xs y)))
    | false => .no)
  | _, _ => .no
theorem emitZ_eq : emitZ = emit := by
  funext D y h
  unfold emitZ emit
  simp only [lenZ_eq, appZ_eq]
  all_goals rfl
def subZ (x i : PV) (h : OHeap) : R PV :=
  match i with
  | .int k => (match elems h x with
    | some l => (match idx k (lenZ l) with
      | some n => (match nthP l n with
        | some v => .ok v h
        | none => .no)
      | none => .no)
    | none => .no)
  | _ => .no
theorem subZ_eq : subZ = subscr := by
  funext x i h
  unfold subZ subscr
  simp only [nthP_eq, lenZ_eq]
  all_goals rfl
def q_sub (a i : IE) (a' : EV) (i' : EV) : EV := fun fr h => bR (a' fr h) fun x h => bR (i' fr h) fun y h => subZ x y h
theorem q_sub_eq (a i : IE) (a' : EV) (i' : EV) : q_sub a i a' i' = x_sub a i a' i' := by
  unfold q_sub x_sub
  try simp only [bR_eq, tZ_eq]
  rw [subZ_eq]
def nextZ (it : ID) (i : Nat) (h : OHeap) : Option (Option PV) :=
  match it with
  | .one s => (match s.all h with | some l => some (nthP l i) | none => none)
  | .rng lo n => (match Nat.blt i n with
    | true => some (some (.int (addZ lo (.ofNat i))))
    | false => some none)
  | .enm a => (match elems h (.obj a) with
    | some l => (match nthP l i with
      | some v => some (some (.tup [.int (.ofNat i), v]))
      | none => some none)
    | none => none)
theorem nextZ_eq : nextZ = next := by
  funext it i h
  unfold nextZ next
  simp only [nthP_eq, addZ_eq]
  rfl
def forZs (it : ID) (tg : PV → Frame → OHeap → RS) (body : Frame → OHeap → RS) (ih : Nat → Frame → OHeap → RS) (i : Nat) (fr : Frame) (h : OHeap) : RS := match nextZ it i h with
    | none => .no
    | some none => .nx fr h
    | some (some v) => match tg v fr h with
      | .nx fr h => (match body fr h with
        | .nx fr h => ih (Nat.succ i) fr h
        | .ct fr h => ih (Nat.succ i) fr h
        | .bk fr h => .nx fr h
        | .ex e fr h => .ex e fr h
        | _ => .no)
      | .ex e fr h => .ex e fr h
      | _ => .no
def forZ (tg : PV → Frame → OHeap → RS) (body : Frame → OHeap → RS) (it : ID) (f : Nat) : Nat → Frame → OHeap → RS := Nat.rec (motive := fun _ => Nat → Frame → OHeap → RS) (fun _ _ _ => .no) (fun _ ih => forZs it tg body ih) f
theorem forZ_eq (tg : PV → Frame → OHeap → RS) (body : Frame → OHeap → RS) (it : ID) : ∀ (f i : Nat) (fr : Frame) (h : OHeap), forZ tg body it f i fr h = forL tg body it f i fr h
  | 0, i, fr, h => rfl
  | f + 1, i, fr, h => by
    have e : forZ tg body it f = forL tg body it f := by funext i fr h; exact forZ_eq tg body it f i fr h
    show forZs it tg body (forZ tg body it f) i fr h = _
    rw [e]
    unfold forZs
    rw [nextZ_eq]
    rfl
def compZs (it : ID) (D : Nat) (tg : PV → Frame → OHeap → RS) (tests : Frame → OHeap → R Bool) (elt : Frame → OHeap → R PV) (ih : Nat → Frame → OHeap → R Unit) (i : Nat) (fr : Frame) (h : OHeap) : R Unit := match nextZ it i h with
    | none => .no
    | some none => .ok () h
    | some (some v) => match tg v fr h with
      | .nx fr1 h => (match tests fr1 h with
        | .ok true h => (match elt fr1 h with
          | .ok y h => (match emitZ D y h with
            | .ok _ h => ih (Nat.succ i) fr1 h
            | _ => .no)
          | _ => .no)
        | .ok false h => ih (Nat.succ i) fr1 h
        | _ => .no)
      | _ => .no
def compZ (tg : PV → Frame → OHeap → RS) (tests : Frame → OHeap → R Bool) (elt : Frame → OHeap → R PV) (it : ID) (D : Nat) (f : Nat) : Nat → Frame → OHeap → R Unit := Nat.rec (motive := fun _ => Nat → Frame → OHeap → R Unit) (fun _ _ _ => .no) (fun _ ih => compZs it D tg tests elt ih) f
theorem compZ_eq (tg : PV → Frame → OHeap → RS) (tests : Frame → OHeap → R Bool) (elt : Frame → OHeap → R PV) (it : ID) (D : Nat) : ∀ (f i : Nat) (fr : Frame) (h : OHeap), compZ tg tests elt it D f i fr h = compL tg tests elt it D f i fr h
  | 0, i, fr, h => rfl
  | f + 1, i, fr, h => by
    have e : compZ tg tests elt it D f = compL tg tests elt it D f := by funext i fr h; exact compZ_eq tg tests elt it D f i fr h
    show compZs it D tg tests elt (compZ tg tests elt it D f) i fr h = _
    rw [e]
    unfold compZs
    rw [nextZ_eq, emitZ_eq]
    rfl
def q_lc (elt : IE) (tg : IT) (it : II) (ifs : IEs) (own : List Nat) (elt' : EV) (tg' : EVt) (it' : EVi) (ifs' : EVp) : EV := fun fr h => bR (it' fr h) fun d h => (match compZ tg' ifs'.ts elt' d h.n turns 0 (wipeF own fr) (h.push (.lst [])) with
    | .ok _ h' => .ok (.obj h.n) h'
    | _ => .no)
theorem q_lc_eq (elt : IE) (tg : IT) (it : II) (ifs : IEs) (own : List Nat) (elt' : EV) (tg' : EVt) (it' : EVi) (ifs' : EVp) : q_lc elt tg it ifs own elt' tg' it' ifs' = x_lc elt tg it ifs own elt' tg' it' ifs' := by
  unfold q_lc x_lc
  try simp only [bR_eq, tZ_eq]
  simp only [compZ_eq]
  all_goals rfl
/-! lengths, lists, calls -/
def replF (n : Nat) : Frame := Nat.rec (motive := fun _ => Frame) [] (fun _ ih => .n :: ih) n
theorem replF_eq : ∀ n, replF n = List.replicate n .n
  | 0 => rfl
  | n + 1 => congrArg (Slot.n :: ·) (replF_eq n)
def mkFr (vs : List PV) : Nat → Frame := List.rec (motive := fun _ => Nat → Frame) (fun n => replF n) (fun v _ ih n => .v v :: ih (Nat.pred n)) vs
theorem mkFr_eq : ∀ (vs : List PV) (n : Nat), mkFr vs n = vs.map .v ++ List.replicate (n - vs.length) .n
  | [], n => replF_eq n
  | v :: vs, n => by
    show Slot.v v :: mkFr vs (Nat.pred n) = _
    rw [mkFr_eq vs]
    show Slot.v v :: (vs.map .v ++ List.replicate (Nat.pred n - vs.length) .n) = Slot.v v :: (vs.map .v ++ List.replicate (n - (vs.length + 1)) .n)
    rw [show Nat.pred n - vs.length = n - (vs.length + 1) by rw [Nat.pred_eq_sub_one]; omega]
def q_tup (es : IEs) (es' : EVp) : EV := fun fr h => bR (es'.es fr h) fun xs h => (match fits (lenZ xs) with
    | true => .ok (.tup xs) h
    | false => .no)
theorem q_tup_eq (es : IEs) (es' : EVp) : q_tup es es' = x_tup es es' := by
  unfold q_tup x_tup
  try simp only [bR_eq, tZ_eq]
  simp only [lenZ_eq]
  all_goals rfl
def q_lst (es : IEs) (es' : EVp) : EV := fun fr h => bR (es'.es fr h) fun xs h => (match fits (lenZ xs) with
    | true => .ok (.obj h.n) (h.push (.lst xs))
    | false => .no)
theorem q_lst_eq (es : IEs) (es' : EVp) : q_lst es es' = x_lst es es' := by
  unfold q_lst x_lst
  try simp only [bR_eq, tZ_eq]
  simp only [lenZ_eq]
  all_goals rfl
def q_ttup (ts : ITs) (ts' : EVts) : EVt := fun v fr h => (match v with
    | .tup xs => (match Nat.beq (lenZ xs) ts.len with
      | true => ts' xs fr h
      | false => .no)
    | _ => .no)
theorem q_ttup_eq (ts : ITs) (ts' : EVts) : q_ttup ts ts' = x_ttup ts ts' := by
  unfold q_ttup x_ttup
  try simp only [bR_eq, tZ_eq]
  simp only [lenZ_eq]
  all_goals rfl
def q_tsub (a i : IE) (a' : EV) (i' : EV) : EVt := fun v fr h => tZ (a' fr h) fr fun x h => tZ (i' fr h) fr fun y h => (match x, clean v with
    | .obj o, true => (match h.get o, y with
      | some (.lst xs), .int k => (match idx k (lenZ xs) with
        | some n => .nx fr (h.set o (.lst (setP xs n v)))
        | none => .no)
      | _, _ => .no)
    | _, _ => .no)
theorem q_tsub_eq (a i : IE) (a' : EV) (i' : EV) : q_tsub a i a' i' = x_tsub a i a' i' := by
  unfold q_tsub x_tsub
  try simp only [bR_eq, tZ_eq]
  simp only [lenZ_eq, setP_eq]
  all_goals rfl
def appendZ (o v : PV) (h : OHeap) : R PV := match o, clean v with
  | .obj a, true => (match h.get a with
    | some (.lst xs) => (match fits (Nat.succ (lenZ xs)) with
      | true => .ok .non (h.set a (.lst (appZ xs v)))
      | false => .no)
    | _ => .no)
  | _, _ => .no
theorem appendZ_eq : appendZ = append := by
  funext o v h
  unfold appendZ append
  simp only [lenZ_eq, appZ_eq]
  all_goals rfl
def q_app (o e : IE) (o' : EV) (e' : EV) : EV := fun fr h => bR (o' fr h) fun x h => (match items h x with
    | some _ => bR (e' fr h) fun y h => appendZ x y h
    | none => .no)
theorem q_app_eq (o e : IE) (o' : EV) (e' : EV) : q_app o e o' e' = x_app o e o' e' := by
  unfold q_app x_app
  try simp only [bR_eq, tZ_eq]
  rw [appendZ_eq]
  all_goals rfl
def builtinZ (b : BF) (as : List PV) (h : OHeap) : R PV := match b, as with
  | .min, [.int i, .int j] => .ok (.int (match ltZ j i with
    | true => j
    | false => i)) h
  | b, as => builtin b as h
theorem builtinZ_eq : builtinZ = builtin := by
  funext b as h
  unfold builtinZ
  split
  · rename_i i j
    show R.ok (PV.int _) h = R.ok (PV.int (if j < i then j else i)) h
    rw [ltZ_eq]
    by_cases c : j < i
    · rw [decide_eq_true c, if_pos c]
    · rw [decide_eq_false c, if_neg c]
  · rfl
def q_bf (b : BF) (as : IEs) (as' : EVp) : EV := fun fr h => bR (as'.es fr h) fun xs h => builtinZ b xs h
theorem q_bf_eq (b : BF) (as : IEs) (as' : EVp) : q_bf b as as' = x_bf b as as' := by
  unfold q_bf x_bf
  try simp only [bR_eq, tZ_eq]
  rw [builtinZ_eq]
def bindZ (D : Dfn) (pos : List PV) : Option (List PV) := match D.star with
  | true => bindA D pos [] []
  | false => (match Nat.beq (lenZ pos) D.ps.length with
    | true => some pos
    | false => bindA D pos [] [])
theorem bindZ_eq (D : Dfn) (pos : List PV) : bindZ D pos = bindA D pos [] [] := by
  unfold bindZ
  rw [lenZ_eq]
  cases h : D.star with
  | true => rfl
  | false =>
    dsimp only
    cases h2 : Nat.beq pos.length D.ps.length with
    | true =>
      unfold bindA
      rw [h, h2]
    | false => rfl
def q_call (P : Prog) (C : CallH) (g : Nat) (as : IEs) (as' : EVp) : EV := match P.globs.get g with
  | some (.fn d) => (match P.dfns.get d with
    | some D => fun fr h => bR (as'.es fr h) fun xs h => (match bindZ D xs with
      | some vs => C d vs [] h
      | none => .no)
    | none => fun _ _ => .no)
  | _ => x_call P C g as as'
theorem q_call_eq (P : Prog) (C : CallH) (g : Nat) (as : IEs) (as' : EVp) : q_call P C g as as' = x_call P C g as as' := by
  unfold q_call
  split
  · rename_i d hg
    split
    · rename_i D hd
      funext fr h
      unfold x_call callable callG callDef
      simp only [hg, hd, bindZ_eq, bR_eq]
      all_goals rfl
    · rename_i hd
      funext fr h
      unfold x_call callable
      simp only [hg, hd]
  · rfl
/-! statements -/
def r_expr (e' : EV) : ES := fun fr h => tZ (e' fr h) fr fun _ h => .nx fr h
theorem r_expr_eq (e' : EV) : r_expr e' = fun fr h => (e' fr h).toS fr fun _ h => .nx fr h := by
  funext fr h
  exact tZ_eq _ _ _
def r_asg (t' : EVt) (e' : EV) : ES := fun fr h => tZ (e' fr h) fr fun x h => cB (cleanZ x) (t' x fr h) .no
theorem r_asg_eq (t' : EVt) (e' : EV) : r_asg t' e' = fun fr h => (e' fr h).toS fr fun x h => (match clean x with
    | true => t' x fr h
    | false => .no) := by
  funext fr h
  unfold r_asg
  rw [tZ_eq]
  congr 1
  funext x h
  rw [cleanZ_eq]
  cases clean x <;> rfl
def r_ret (e' : EV) : ES := fun fr h => tZ (e' fr h) fr fun x h => cB (cleanZ x) (.rt x fr h) .no
theorem r_ret_eq (e' : EV) : r_ret e' = fun fr h => (e' fr h).toS fr fun x h => (match clean x with
    | true => .rt x fr h
    | false => .no) := by
  funext fr h
  unfold r_ret
  rw [tZ_eq]
  congr 1
  funext x h
  rw [cleanZ_eq]
  cases clean x <;> rfl
def r_ite (c' : EV) (a' b' : ES) : ES := fun fr h => tZ (c' fr h) fr fun x h => oZ (truthZ h x) .no fun t => cB t (a' fr h) (b' fr h)
theorem r_ite_eq (c' : EV) (a' b' : ES) : r_ite c' a' b' = fun fr h => (c' fr h).toS fr fun x h => (match truth h x with
    | some true => a' fr h
    | some false => b' fr h
    | none => .no) := by
  funext fr h
  unfold r_ite
  rw [tZ_eq]
  congr 1
  funext x h
  rw [truthZ_eq]
  cases truth h x with
  | none => rfl
  | some t => cases t <;> rfl
def r_cons (s' ss' : ES) : ES := fun fr h => seqZ (s' fr h) ss'
theorem r_cons_eq (s' ss' : ES) : r_cons s' ss' = fun fr h => (match s' fr h with
    | .nx fr h => ss' fr h
    | r => r) := by
  funext fr h
  exact seqZ_eq _ _
end
end Py

/-! The text as closures, for the kernel. -/
set_option Elab.async false
set_option linter.all false
set_option maxRecDepth 100000
set_option maxHeartbeats 1000000
noncomputable section
namespace Py
open PySem
noncomputable section
structure ZE where
  isn : Bool
  run : Prog → CallH → EV
structure ZEs where
  run : Prog → CallH → EVp
structure ZKs where
  run : Prog → CallH → EVk
structure ZT where
  raw : IT
  run : Prog → CallH → EVt
structure ZTs where
  raw : ITs
  run : Prog → CallH → EVts
structure ZI where
  run : Prog → CallH → EVi
structure ZS where
  run : Prog → CallH → ES
structure ZSs where
  run : Prog → CallH → ES
structure ZHs where
  run : Prog → CallH → EH

def ZE.non : ZE := ⟨true, fun P C => x_non⟩
def ZE.bl (b : Bool) : ZE := ⟨false, fun P C => x_bl b⟩
def ZE.int (i : Int) : ZE := ⟨false, fun P C => x_int i⟩
def ZE.str (x : PySem.Str) : ZE := ⟨false, fun P C => x_str x⟩
def ZE.loc (i : Nat) : ZE := ⟨false, fun P C => q_loc i⟩
def ZE.glo (g : Nat) : ZE := ⟨false, fun P C => x_glo P g⟩
def ZE.bin (op : Bop) (a : ZE) (b : ZE) : ZE := ⟨false, fun P C => q_bin op .unk .unk (a.run P C) (b.run P C)⟩
def ZE.neg (a : ZE) : ZE := ⟨false, fun P C => x_neg .unk (a.run P C)⟩
def ZE.not (a : ZE) : ZE := ⟨false, fun P C => x_not .unk (a.run P C)⟩
def ZE.cmp (op : Cop) (a : ZE) (b : ZE) : ZE := ⟨false, fun P C => q_cmp P op .unk .unk (a.run P C) (b.run P C)⟩
def ZE.chain (o1 : Cop) (o2 : Cop) (a : ZE) (b : ZE) (c : ZE) : ZE := ⟨false, fun P C => x_chain P o1 o2 .unk .unk .unk (a.run P C) (b.run P C) (c.run P C)⟩
def ZE.and (a : ZE) (b : ZE) : ZE := ⟨false, fun P C => q_and .unk .unk (a.run P C) (b.run P C)⟩
def ZE.or (a : ZE) (b : ZE) : ZE := ⟨false, fun P C => q_or .unk .unk (a.run P C) (b.run P C)⟩
def ZE.ite (c : ZE) (a : ZE) (b : ZE) : ZE := ⟨false, fun P C => q_ite .unk .unk .unk (c.run P C) (a.run P C) (b.run P C)⟩
def ZE.tup (es : ZEs) : ZE := ⟨false, fun P C => q_tup .nil (es.run P C)⟩
def ZE.lst (es : ZEs) : ZE := ⟨false, fun P C => q_lst .nil (es.run P C)⟩
def ZE.dic (kvs : ZKs) : ZE := ⟨false, fun P C => x_dic .nil (kvs.run P C)⟩
def ZE.sub (a : ZE) (i : ZE) : ZE := ⟨false, fun P C => q_sub .unk .unk (a.run P C) (i.run P C)⟩
def ZE.sli (a : ZE) (lo : ZE) (hi : ZE) : ZE := ⟨false, fun P C => x_sli .unk (cond lo.isn .non .unk) (cond hi.isn .non .unk) (a.run P C) (lo.run P C) (hi.run P C)⟩
def ZE.fld (a : ZE) (f : Nat) : ZE := ⟨false, fun P C => x_fld P .unk f (a.run P C)⟩
def ZE.ccon (g : Nat) (f : Nat) : ZE := ⟨false, fun P C => x_ccon P g f⟩
def ZE.call (g : Nat) (as : ZEs) : ZE := ⟨false, fun P C => q_call P C g .nil (as.run P C)⟩
def ZE.callk (g : Nat) (ks : List Nat) (kv : ZEs) : ZE := ⟨false, fun P C => x_callk P C g ks .nil (kv.run P C)⟩
def ZE.callv (f : ZE) : ZE := ⟨false, fun P C => x_callv P C .unk (f.run P C)⟩
def ZE.meth (o : ZE) (m : Nat) (as : ZEs) : ZE := ⟨false, fun P C => x_meth P C .unk m .nil (o.run P C) (as.run P C)⟩
def ZE.isi (e : ZE) (cs : List CR) : ZE := ⟨false, fun P C => x_isi P .unk cs (e.run P C)⟩
def ZE.bf (b : BF) (as : ZEs) : ZE := ⟨false, fun P C => q_bf b .nil (as.run P C)⟩
def ZE.app (o : ZE) (e : ZE) : ZE := ⟨false, fun P C => q_app .unk .unk (o.run P C) (e.run P C)⟩
def ZE.dget (o : ZE) (k : ZE) (d : ZE) : ZE := ⟨false, fun P C => x_dget .unk .unk .unk (o.run P C) (k.run P C) (d.run P C)⟩
def ZE.lam (d : Nat) : ZE := ⟨false, fun P C => x_lam P d⟩
def ZE.lc (elt : ZE) (tg : ZT) (it : ZI) (ifs : ZEs) (own : List Nat) : ZE := ⟨false, fun P C => q_lc .unk (.fld .unk 0) (.ex .unk) .nil own (elt.run P C) (tg.run P C) (it.run P C) (ifs.run P C)⟩
def ZE.dc0 (e : ZE) : ZE := ⟨false, fun P C => x_dc0 .unk (e.run P C)⟩
def ZE.unk : ZE := ⟨false, fun P C => x_unk⟩
def ZEs.nil : ZEs := ⟨fun P C => x_nil⟩
def ZEs.cons (e : ZE) (es : ZEs) : ZEs := ⟨fun P C => q_cons .unk .nil (e.run P C) (es.run P C)⟩
def ZKs.nil : ZKs := ⟨fun P C => x_knil⟩
def ZKs.cons (k : ZE) (v : ZE) (r : ZKs) : ZKs := ⟨fun P C => x_kcons .unk .unk .nil (k.run P C) (v.run P C) (r.run P C)⟩
def ZT.name (i : Nat) : ZT := ⟨.name i, fun P C => q_tname i⟩
def ZT.tup (ts : ZTs) : ZT := ⟨.fld .unk 0, fun P C => q_ttup ts.raw (ts.run P C)⟩
def ZT.sub (a : ZE) (i : ZE) : ZT := ⟨.fld .unk 0, fun P C => q_tsub .unk .unk (a.run P C) (i.run P C)⟩
def ZT.fld (a : ZE) (f : Nat) : ZT := ⟨.fld .unk 0, fun P C => x_tfld P .unk f (a.run P C)⟩
def ZTs.nil : ZTs := ⟨.nil, fun P C => x_tsnil⟩
def ZTs.cons (t : ZT) (ts : ZTs) : ZTs := ⟨.cons (.name 0) ts.raw, fun P C => x_tscons (.fld .unk 0) .nil (t.run P C) (ts.run P C)⟩
def ZI.ex (e : ZE) : ZI := ⟨fun P C => x_iex .unk (e.run P C)⟩
def ZI.rng1 (e : ZE) : ZI := ⟨fun P C => x_irng1 .unk (e.run P C)⟩
def ZI.rng2 (a : ZE) (b : ZE) : ZI := ⟨fun P C => x_irng2 .unk .unk (a.run P C) (b.run P C)⟩
def ZI.enm (e : ZE) : ZI := ⟨fun P C => x_ienm .unk (e.run P C)⟩
def w_expr (P : Prog) (C : CallH) (e' : EV) : ES := r_expr e'
def w_asg (P : Prog) (C : CallH) (t' : EVt) (e' : EV) : ES := r_asg t' e'
def w_asg2 (P : Prog) (C : CallH) (t' : EVt) (u' : EVt) (e' : EV) : ES := fun fr h => (e' fr h).toS fr fun x h => (match clean x with
    | true => (match t' x fr h with
      | .nx fr h => u' x fr h
      | _ => .no)
    | false => .no)
def w_aug (P : Prog) (C : CallH) (op : Bop) (t : IT) (t' : EVt) (e' : EV) : ES := fun fr h => (match t with
    | .name i => (match fget fr i h with
      | some x => (e' fr h).toS fr fun y h => (match x, y with
        | .int _, .int _ => (binop op x y h).toS fr fun z h => (match fput fr i z h with
          | some (fr, h) => .nx fr h
          | none => .no)
        | _, _ => .no)
      | none => .no)
    | _ => .no)
def w_ret (P : Prog) (C : CallH) (e' : EV) : ES := r_ret e'
def w_retN (P : Prog) (C : CallH) : ES := fun fr h => .rt .non fr h
def w_ite (P : Prog) (C : CallH) (c' : EV) (a' : ES) (b' : ES) : ES := r_ite c' a' b'
def w_for_ (P : Prog) (C : CallH) (t' : EVt) (it' : EVi) (b' : ES) : ES := fun fr h => (it' fr h).toS fr fun d h => forZ t' b' d turns 0 fr h
def w_brk (P : Prog) (C : CallH) : ES := fun fr h => .bk fr h
def w_cnt (P : Prog) (C : CallH) : ES := fun fr h => .ct fr h
def w_pass (P : Prog) (C : CallH) : ES := fun fr h => .nx fr h
def w_raise (P : Prog) (C : CallH) (g : Nat) (as' : EVp) : ES := fun fr h => (as'.es fr h).toS fr fun xs h => (match P.globs.get g with
    | some (.cls c) => (match excMake P c xs h with
      | some h' => .ex h.n fr h'
      | none => .no)
    | _ => .no)
def w_try_ (P : Prog) (C : CallH) (b' : ES) (hs' : EH) : ES := fun fr h => (match b' fr h with
    | .ex e fr h => hs' e fr h
    | r => r)
def w_unk (P : Prog) (C : CallH) : ES := fun _ _ => .no
def ZS.expr (e : ZE) : ZS := ⟨fun P C => w_expr P C (e.run P C)⟩
def ZS.asg (t : ZT) (e : ZE) : ZS := ⟨fun P C => w_asg P C (t.run P C) (e.run P C)⟩
def ZS.asg2 (t : ZT) (u : ZT) (e : ZE) : ZS := ⟨fun P C => w_asg2 P C (t.run P C) (u.run P C) (e.run P C)⟩
def ZS.aug (t : ZT) (op : Bop) (e : ZE) : ZS := ⟨fun P C => w_aug P C op t.raw (t.run P C) (e.run P C)⟩
def ZS.ret (e : ZE) : ZS := ⟨fun P C => w_ret P C (e.run P C)⟩
def ZS.retN : ZS := ⟨fun P C => w_retN P C⟩
def ZS.ite (c : ZE) (a : ZSs) (b : ZSs) : ZS := ⟨fun P C => w_ite P C (c.run P C) (a.run P C) (b.run P C)⟩
def ZS.for_ (t : ZT) (it : ZI) (b : ZSs) : ZS := ⟨fun P C => w_for_ P C (t.run P C) (it.run P C) (b.run P C)⟩
def ZS.brk : ZS := ⟨fun P C => w_brk P C⟩
def ZS.cnt : ZS := ⟨fun P C => w_cnt P C⟩
def ZS.pass : ZS := ⟨fun P C => w_pass P C⟩
def ZS.raise (g : Nat) (as : ZEs) : ZS := ⟨fun P C => w_raise P C g (as.run P C)⟩
def ZS.try_ (b : ZSs) (hs : ZHs) : ZS := ⟨fun P C => w_try_ P C (b.run P C) (hs.run P C)⟩
def ZS.unk : ZS := ⟨fun P C => w_unk P C⟩
def w_nil : ES := fun fr h => .nx fr h
def w_cons (s' ss' : ES) : ES := r_cons s' ss'
def w_hnil : EH := fun e fr h => .ex e fr h
def w_hcons (P : Prog) (g i : Nat) (b' : ES) (hs' : EH) : EH := fun e fr h => (match h.get e with
    | some (.exc c _) => (match takes P c g with
      | some true => (match slotFree fr i with
        | true => (match b' (fr.set i (.v (.exv e))) h with
          | .nx fr h => (match cleanF (fr.set i .n) with
            | true => .nx (fr.set i .n) h
            | false => .no)
          | _ => .no)
        | false => .no)
      | some false => hs' e fr h
      | none => .no)
    | _ => .no)
def ZSs.nil : ZSs := ⟨fun P C => w_nil⟩
def ZSs.cons (s : ZS) (ss : ZSs) : ZSs := ⟨fun P C => w_cons (s.run P C) (ss.run P C)⟩
def ZHs.nil : ZHs := ⟨fun P C => w_hnil⟩
def ZHs.cons (g i : Nat) (b : ZSs) (hs : ZHs) : ZHs := ⟨fun P C => w_hcons P g i (b.run P C) (hs.run P C)⟩
/-! the text, turned to closures -/
mutual
def denE : IE → ZE
  | .non => .non
  | .bl b => .bl b
  | .int i => .int i
  | .str x => .str x
  | .loc i => .loc i
  | .glo g => .glo g
  | .bin op a b => .bin op (denE a) (denE b)
  | .neg a => .neg (denE a)
  | .not a => .not (denE a)
  | .cmp op a b => .cmp op (denE a) (denE b)
  | .chain o1 o2 a b c => .chain o1 o2 (denE a) (denE b) (denE c)
  | .and a b => .and (denE a) (denE b)
  | .or a b => .or (denE a) (denE b)
  | .ite c a b => .ite (denE c) (denE a) (denE b)
  | .tup es => .tup (denEs es)
  | .lst es => .lst (denEs es)
  | .dic kvs => .dic (denKs kvs)
  | .sub a i => .sub (denE a) (denE i)
  | .sli a lo hi => .sli (denE a) (denE lo) (denE hi)
  | .fld a f => .fld (denE a) f
  | .ccon g f => .ccon g f
  | .call g as => .call g (denEs as)
  | .callk g ks kv => .callk g ks (denEs kv)
  | .callv f => .callv (denE f)
  | .meth o m as => .meth (denE o) m (denEs as)
  | .isi e cs => .isi (denE e) cs
  | .bf b as => .bf b (denEs as)
  | .app o e => .app (denE o) (denE e)
  | .dget o k d => .dget (denE o) (denE k) (denE d)
  | .lam d => .lam d
  | .lc elt tg it ifs own => .lc (denE elt) (denT tg) (denI it) (denEs ifs) own
  | .dc0 e => .dc0 (denE e)
  | .unk => .unk
def denEs : IEs → ZEs
  | .nil => .nil
  | .cons e es => .cons (denE e) (denEs es)
def denKs : IKs → ZKs
  | .nil => .nil
  | .cons k v r => .cons (denE k) (denE v) (denKs r)
def denT : IT → ZT
  | .name i => .name i
  | .tup ts => .tup (denTs ts)
  | .sub a i => .sub (denE a) (denE i)
  | .fld a f => .fld (denE a) f
def denTs : ITs → ZTs
  | .nil => .nil
  | .cons t ts => .cons (denT t) (denTs ts)
def denI : II → ZI
  | .ex e => .ex (denE e)
  | .rng1 e => .rng1 (denE e)
  | .rng2 a b => .rng2 (denE a) (denE b)
  | .enm e => .enm (denE e)
end
mutual
def denS : IS → ZS
  | .expr e => .expr (denE e)
  | .asg t e => .asg (denT t) (denE e)
  | .asg2 t u e => .asg2 (denT t) (denT u) (denE e)
  | .aug t op e => .aug (denT t) op (denE e)
  | .ret e => .ret (denE e)
  | .retN => .retN
  | .ite c a b => .ite (denE c) (denSs a) (denSs b)
  | .for_ t it b => .for_ (denT t) (denI it) (denSs b)
  | .brk => .brk
  | .cnt => .cnt
  | .pass => .pass
  | .raise g as => .raise g (denEs as)
  | .try_ b hs => .try_ (denSs b) (denHs hs)
  | .unk => .unk
def denSs : ISs → ZSs
  | .nil => .nil
  | .cons s ss => .cons (denS s) (denSs ss)
def denHs : IHs → ZHs
  | .nil => .nil
  | .cons g i b hs => .cons g i (denSs b) (denHs hs)
end
section
variable (P : Prog) (C : CallH)
mutual
theorem isn_ok : ∀ e : IE, (denE e).isn = e.isNon
  | .non => rfl
  | .bl _ => rfl
  | .int _ => rfl
  | .str _ => rfl
  | .loc _ => rfl
  | .glo _ => rfl
  | .bin _ _ _ => rfl
  | .neg _ => rfl
  | .not _ => rfl
  | .cmp _ _ _ => rfl
  | .chain _ _ _ _ _ => rfl
  | .and _ _ => rfl
  | .or _ _ => rfl
  | .ite _ _ _ => rfl
  | .tup _ => rfl
  | .lst _ => rfl
  | .dic _ => rfl
  | .sub _ _ => rfl
  | .sli _ _ _ => rfl
  | .fld _ _ => rfl
  | .ccon _ _ => rfl
  | .call _ _ => rfl
  | .callk _ _ _ => rfl
  | .callv _ => rfl
  | .meth _ _ _ => rfl
  | .isi _ _ => rfl
  | .bf _ _ => rfl
  | .app _ _ => rfl
  | .dget _ _ _ => rfl
  | .lam _ => rfl
  | .lc _ _ _ _ _ => rfl
  | .dc0 _ => rfl
  | .unk => rfl
end
theorem raw_ok : ∀ ts : ITs, (denTs ts).raw.len = ts.len
  | .nil => rfl
  | .cons t ts => by
    show (denTs ts).raw.len + 1 = ts.len + 1
    rw [raw_ok ts]
theorem isn_raw (e : IE) : (cond (denE e).isn IE.non IE.unk).isNon = e.isNon := by
  rw [isn_ok]
  cases e <;> rfl
mutual
theorem denE_ok : ∀ e : IE, (denE e).run P C = fE P C e
  | .non => by
    show x_non = _
    rfl
  | .bl b => by
    show x_bl b = _
    rfl
  | .int i => by
    show x_int i = _
    rfl
  | .str x => by
    show x_str x = _
    rfl
  | .loc i => by
    show q_loc i = _
    rw [q_loc_eq]
    rfl
  | .glo g => by
    show x_glo P g = _
    rfl
  | .bin op a b => by
    show q_bin op .unk .unk ((denE a).run P C) ((denE b).run P C) = _
    rw [denE_ok a]
    rw [denE_ok b]
    rw [q_bin_eq]
    rfl
  | .neg a => by
    show x_neg .unk ((denE a).run P C) = _
    rw [denE_ok a]
    rfl
  | .not a => by
    show x_not .unk ((denE a).run P C) = _
    rw [denE_ok a]
    rfl
  | .cmp op a b => by
    show q_cmp P op .unk .unk ((denE a).run P C) ((denE b).run P C) = _
    rw [denE_ok a]
    rw [denE_ok b]
    rw [q_cmp_eq]
    rfl
  | .chain o1 o2 a b c => by
    show x_chain P o1 o2 .unk .unk .unk ((denE a).run P C) ((denE b).run P C) ((denE c).run P C) = _
    rw [denE_ok a]
    rw [denE_ok b]
    rw [denE_ok c]
    rfl
  | .and a b => by
    show q_and .unk .unk ((denE a).run P C) ((denE b).run P C) = _
    rw [denE_ok a]
    rw [denE_ok b]
    rw [q_and_eq]
    rfl
  | .or a b => by
    show q_or .unk .unk ((denE a).run P C) ((denE b).run P C) = _
    rw [denE_ok a]
    rw [denE_ok b]
    rw [q_or_eq]
    rfl
  | .ite c a b => by
    show q_ite .unk .unk .unk ((denE c).run P C) ((denE a).run P C) ((denE b).run P C) = _
    rw [denE_ok c]
    rw [denE_ok a]
    rw [denE_ok b]
    rw [q_ite_eq]
    rfl
  | .tup es => by
    show q_tup .nil ((denEs es).run P C) = _
    rw [denEs_ok es]
    rw [q_tup_eq]
    rfl
  | .lst es => by
    show q_lst .nil ((denEs es).run P C) = _
    rw [denEs_ok es]
    rw [q_lst_eq]
    rfl
  | .dic kvs => by
    show x_dic .nil ((denKs kvs).run P C) = _
    rw [denKs_ok kvs]
    rfl
  | .sub a i => by
    show q_sub .unk .unk ((denE a).run P C) ((denE i).run P C) = _
    rw [denE_ok a]
    rw [denE_ok i]
    rw [q_sub_eq]
    rfl
  | .sli a lo hi => by
    show x_sli .unk (cond (denE lo).isn .non .unk) (cond (denE hi).isn .non .unk) ((denE a).run P C) ((denE lo).run P C) ((denE hi).run P C) = _
    rw [denE_ok a]
    rw [denE_ok lo]
    rw [denE_ok hi]
    unfold x_sli
    rw [isn_raw lo, isn_raw hi]
    rfl
  | .fld a f => by
    show x_fld P .unk f ((denE a).run P C) = _
    rw [denE_ok a]
    rfl
  | .ccon g f => by
    show x_ccon P g f = _
    rfl
  | .call g as => by
    show q_call P C g .nil ((denEs as).run P C) = _
    rw [denEs_ok as]
    rw [q_call_eq]
    rfl
  | .callk g ks kv => by
    show x_callk P C g ks .nil ((denEs kv).run P C) = _
    rw [denEs_ok kv]
    rfl
  | .callv f => by
    show x_callv P C .unk ((denE f).run P C) = _
    rw [denE_ok f]
    rfl
  | .meth o m as => by
    show x_meth P C .unk m .nil ((denE o).run P C) ((denEs as).run P C) = _
    rw [denE_ok o]
    rw [denEs_ok as]
    rfl
  | .isi e cs => by
    show x_isi P .unk cs ((denE e).run P C) = _
    rw [denE_ok e]
    rfl
  | .bf b as => by
    show q_bf b .nil ((denEs as).run P C) = _
    rw [denEs_ok as]
    rw [q_bf_eq]
    rfl
  | .app o e => by
    show q_app .unk .unk ((denE o).run P C) ((denE e).run P C) = _
    rw [denE_ok o]
    rw [denE_ok e]
    rw [q_app_eq]
    rfl
  | .dget o k d => by
    show x_dget .unk .unk .unk ((denE o).run P C) ((denE k).run P C) ((denE d).run P C) = _
    rw [denE_ok o]
    rw [denE_ok k]
    rw [denE_ok d]
    rfl
  | .lam d => by
    show x_lam P d = _
    rfl
  | .lc elt tg it ifs own => by
    show q_lc .unk (.fld .unk 0) (.ex .unk) .nil own ((denE elt).run P C) ((denT tg).run P C) ((denI it).run P C) ((denEs ifs).run P C) = _
    rw [denE_ok elt]
    rw [denT_ok tg]
    rw [denI_ok it]
    rw [denEs_ok ifs]
    rw [q_lc_eq]
    rfl
  | .dc0 e => by
    show x_dc0 .unk ((denE e).run P C) = _
    rw [denE_ok e]
    rfl
  | .unk => by
    show x_unk = _
    rfl
theorem denEs_ok : ∀ e : IEs, (denEs e).run P C = fEs P C e
  | .nil => by
    show x_nil = _
    rfl
  | .cons e es => by
    show q_cons .unk .nil ((denE e).run P C) ((denEs es).run P C) = _
    rw [denE_ok e]
    rw [denEs_ok es]
    rw [q_cons_eq]
    rfl
theorem denKs_ok : ∀ e : IKs, (denKs e).run P C = fKs P C e
  | .nil => by
    show x_knil = _
    rfl
  | .cons k v r => by
    show x_kcons .unk .unk .nil ((denE k).run P C) ((denE v).run P C) ((denKs r).run P C) = _
    rw [denE_ok k]
    rw [denE_ok v]
    rw [denKs_ok r]
    rfl
theorem denT_ok : ∀ e : IT, (denT e).run P C = fT P C e
  | .name i => by
    show q_tname i = _
    rw [q_tname_eq]
    rfl
  | .tup ts => by
    show q_ttup (denTs ts).raw ((denTs ts).run P C) = _
    rw [denTs_ok ts]
    rw [q_ttup_eq]
    unfold x_ttup
    simp only [raw_ok]
    rfl
  | .sub a i => by
    show q_tsub .unk .unk ((denE a).run P C) ((denE i).run P C) = _
    rw [denE_ok a]
    rw [denE_ok i]
    rw [q_tsub_eq]
    rfl
  | .fld a f => by
    show x_tfld P .unk f ((denE a).run P C) = _
    rw [denE_ok a]
    rfl
theorem denTs_ok : ∀ e : ITs, (denTs e).run P C = fTs P C e
  | .nil => by
    show x_tsnil = _
    rfl
  | .cons t ts => by
    show x_tscons (.fld .unk 0) .nil ((denT t).run P C) ((denTs ts).run P C) = _
    rw [denT_ok t]
    rw [denTs_ok ts]
    rfl
theorem denI_ok : ∀ e : II, (denI e).run P C = fI P C e
  | .ex e => by
    show x_iex .unk ((denE e).run P C) = _
    rw [denE_ok e]
    rfl
  | .rng1 e => by
    show x_irng1 .unk ((denE e).run P C) = _
    rw [denE_ok e]
    rfl
  | .rng2 a b => by
    show x_irng2 .unk .unk ((denE a).run P C) ((denE b).run P C) = _
    rw [denE_ok a]
    rw [denE_ok b]
    rfl
  | .enm e => by
    show x_ienm .unk ((denE e).run P C) = _
    rw [denE_ok e]
    rfl
end
mutual
theorem denS_ok : ∀ e : IS, (denS e).run P C = fS P C e
  | .expr e => by
    show w_expr P C ((denE e).run P C) = _
    rw [denE_ok P C e]
    unfold w_expr
    rw [r_expr_eq]
    rfl
  | .asg t e => by
    show w_asg P C ((denT t).run P C) ((denE e).run P C) = _
    rw [denT_ok P C t]
    rw [denE_ok P C e]
    unfold w_asg
    rw [r_asg_eq]
    rfl
  | .asg2 t u e => by
    show w_asg2 P C ((denT t).run P C) ((denT u).run P C) ((denE e).run P C) = _
    rw [denT_ok P C t]
    rw [denT_ok P C u]
    rw [denE_ok P C e]
    rfl
  | .aug t op e => by
    show w_aug P C op (denT t).raw ((denT t).run P C) ((denE e).run P C) = _
    rw [denE_ok P C e]
    cases t <;> rfl
  | .ret e => by
    show w_ret P C ((denE e).run P C) = _
    rw [denE_ok P C e]
    unfold w_ret
    rw [r_ret_eq]
    rfl
  | .retN => by
    show w_retN P C = _
    rfl
  | .ite c a b => by
    show w_ite P C ((denE c).run P C) ((denSs a).run P C) ((denSs b).run P C) = _
    rw [denE_ok P C c]
    rw [denSs_ok a]
    rw [denSs_ok b]
    unfold w_ite
    rw [r_ite_eq]
    rfl
  | .for_ t it b => by
    show w_for_ P C ((denT t).run P C) ((denI it).run P C) ((denSs b).run P C) = _
    rw [denT_ok P C t]
    rw [denI_ok P C it]
    rw [denSs_ok b]
    unfold w_for_
    simp only [forZ_eq]
    rfl
  | .brk => by
    show w_brk P C = _
    rfl
  | .cnt => by
    show w_cnt P C = _
    rfl
  | .pass => by
    show w_pass P C = _
    rfl
  | .raise g as => by
    show w_raise P C g ((denEs as).run P C) = _
    rw [denEs_ok P C as]
    rfl
  | .try_ b hs => by
    show w_try_ P C ((denSs b).run P C) ((denHs hs).run P C) = _
    rw [denSs_ok b]
    rw [denHs_ok hs]
    rfl
  | .unk => by
    show w_unk P C = _
    rfl
theorem denSs_ok : ∀ e : ISs, (denSs e).run P C = fSs P C e
  | .nil => by
    show w_nil = _
    rfl
  | .cons s ss => by
    show w_cons ((denS s).run P C) ((denSs ss).run P C) = _
    rw [denS_ok s]
    rw [denSs_ok ss]
    unfold w_cons
    rw [r_cons_eq]
    rfl
theorem denHs_ok : ∀ e : IHs, (denHs e).run P C = fHs P C e
  | .nil => by
    show w_hnil = _
    rfl
  | .cons g i b hs => by
    show w_hcons P g i ((denSs b).run P C) ((denHs hs).run P C) = _
    rw [denSs_ok b]
    rw [denHs_ok hs]
    rfl
end
end
structure ZDfn where
  ns : Nat
  cells : List Nat
  body : ZSs
  lam : Option ZE
def lamOf : ISs → Option IE
  | .cons (.ret e) .nil => some e
  | _ => none
def denD (D : Dfn) : ZDfn := ⟨D.ns, D.cells, denSs D.body, (lamOf D.body).map denE⟩
def z_call (P : Prog) (Z : Tr ZDfn) (C : CallH) : CallH := fun d vs caps h => match Z.get d with
    | some D => (match caps with
      | [] => (match D.body.run P C (defStart D.cells (mkFr vs D.ns) h).1 (defStart D.cells (mkFr vs D.ns) h).2 with
        | .rt v _ h' => .ok v h'
        | .nx _ h' => .ok .non h'
        | .ex e _ h' => (match D.cells with
          | [] => .ex e h'
          | _ => .no)
        | _ => .no)
      | _ => (match D.lam with
        | some e => (match vs with
          | [] => (match capsGood h caps with
            | true => (e.run P C (putCaps caps (List.replicate D.ns .n)) h).bind fun v h => (match clean v with
              | true => .ok v h
              | false => .no)
            | false => .no)
          | _ => .no)
        | none => .no))
    | none => .no
def callZ (P : Prog) (Z : Tr ZDfn) (n : Nat) : CallH := Nat.rec (motive := fun _ => CallH) (fun _ _ _ _ => .no) (fun n C => z_call P Z C) n
def Tr.map {α β : Type} (f : α → β) : Tr α → Tr β
  | .nil => .nil
  | .node v l r => .node (v.map f) (l.map f) (r.map f)
theorem Tr.map_get {α β : Type} (f : α → β) : ∀ (t : Tr α) (k : Nat), (t.map f).get k = (t.get k).map f
  | .nil, _ => rfl
  | .node v l r, 0 => rfl
  | .node v l r, k + 1 => by
    show (Bool.rec (motive := fun _ => Option β) ((r.map f).get (k / 2)) ((l.map f).get (k / 2)) (Nat.beq (k % 2) 0) : Option β) = (Bool.rec (motive := fun _ => Option α) (r.get (k / 2)) (l.get (k / 2)) (Nat.beq (k % 2) 0) : Option α).map f
    cases Nat.beq (k % 2) 0
    · exact Tr.map_get f r _
    · exact Tr.map_get f l _
theorem callZ_all {P : Prog} {Z : Tr ZDfn} (hZ : P.dfns.map denD = Z) (n : Nat) : callD P n = callZ P Z n := by
  rw [callF_all]
  induction n with
  | zero => rfl
  | succ n ih =>
    show y_call P (callF P n) = z_call P Z (callZ P Z n)
    rw [← ih]
    funext d vs caps h
    unfold y_call z_call
    simp only [mkFr_eq]
    rw [← hZ, Tr.map_get]
    cases P.dfns.get d with
    | none => rfl
    | some D =>
      cases caps with
      | nil =>
        show (_ : R PV) = (match (denSs D.body).run P (callF P n) (defStart D.cells (vs.map .v ++ List.replicate (D.ns - vs.length) .n) h).1 (defStart D.cells (vs.map .v ++ List.replicate (D.ns - vs.length) .n) h).2 with
          | .rt v _ h' => .ok v h'
          | .nx _ h' => .ok .non h'
          | .ex e _ h' => (match D.cells with
            | [] => .ex e h'
            | _ => .no)
          | _ => .no)
        rw [denSs_ok]
        all_goals rfl
      | cons c cs =>
        show (_ : R PV) = (match (lamOf D.body).map denE with
          | some e => (match vs with
            | [] => (match capsGood h (c :: cs) with
              | true => (e.run P (callF P n) (putCaps (c :: cs) (List.replicate D.ns .n)) h).bind fun v h => (match clean v with
                | true => .ok v h
                | false => .no)
              | false => .no)
            | _ => .no)
          | none => .no)
        dsimp only
        generalize D.body = b
        cases b with
        | nil => rfl
        | cons s ss => cases s <;> cases ss <;> first | rfl | (simp only [lamOf, Option.map, denE_ok]; rfl) | simp only [lamOf, Option.map, denE_ok]
theorem den_run {P : Prog} {Z : Tr ZDfn} (hZ : P.dfns.map denD = Z) (n : Nat) {s : ISs} {z : ZSs} (h : denSs s = z) (fr : Frame) (H : OHeap) : evalSs P (callD P n) s fr H = z.run P (callZ P Z n) fr H := by
  rw [← h, denSs_ok, ← callZ_all hZ, (fS_all P (callD P n)).2.1]
theorem den_es {P : Prog} {Z : Tr ZDfn} (hZ : P.dfns.map denD = Z) (n : Nat) {s : IEs} {z : ZEs} (h : denEs s = z) (fr : Frame) (H : OHeap) : evalEs P (callD P n) s fr H = (z.run P (callZ P Z n)).es fr H := by
  rw [← h, denEs_ok, ← callZ_all hZ, fEs_all]
end
end Py

/-! The sections, by closures. -/
set_option Elab.async false
set_option linter.all false
set_option maxRecDepth 100000
set_option maxHeartbeats 1000000
noncomputable section
namespace Py
open PySem PySem.Spec PyProof.Rows L2
def secAtZ (P : Prog) (C : CallH) (as : ZEs) (ss : ZSs) (ps : List Pat) (frc : Py.Frame) (x y x' y' : Int) (i : Nat) : Bool := match (as.run P C).es frc (small_ ps x y) with
  | .ok [.obj 0, .obj L] h => (match h.get L with
      | some (.lst its) => (match its[i]? with
        | some v => nxOk ps frc (ss.run P C frc ((h.set 0 (.lst [.int x', .int y'])).set 4 (.cell (some v))))
        | none => false)
      | _ => false)
  | _ => false
theorem secAt_z {P : Prog} {Z : Tr ZDfn} (hZ : P.dfns.map denD = Z) (n : Nat) {as : IEs} {ss : ISs} {za : ZEs} {zs : ZSs} (ha : denEs as = za) (hs : denSs ss = zs) {ps : List Pat} {frc : Py.Frame} {x y x' y' : Int} {i : Nat} (h : secAtZ P (callZ P Z n) za zs ps frc x y x' y' i = true) : secAt P (callD P n) as ss ps frc x y x' y' i = true := by
  have e : secAt P (callD P n) as ss ps frc x y x' y' i = secAtZ P (callZ P Z n) za zs ps frc x y x' y' i := by
    unfold secAt secAtZ
    rw [den_es hZ n ha]
    simp only [den_run hZ n hs]
    all_goals rfl
  rw [e, h]
end Py

namespace K90
open Py PySem PySem.Spec PyProof.Rows L2
def top (i : Nat) : Stmt := PySem.Challenge.pw_mixeddiffs_k90_fronts_refused_and_named.main.body.getD i (.Pass ⟨0, 0, 0, 0⟩)
def sub (i j : Nat) : Stmt := match top i with
  | .ClassDef _ _ _ b _ _ _ _ _ _ _ => b.getD j (.Pass ⟨0, 0, 0, 0⟩)
  | _ => .Pass ⟨0, 0, 0, 0⟩
/-- _wall -/
def d0 : Dfn := { ps := [0], star := false, dfl := [], sh := [], ns := 1, cells := [], body := (.cons .unk .nil) }
/-- is_line -/
def d1 : Dfn := { ps := [1], star := false, dfl := [], sh := [], ns := 1, cells := [], body := (.cons (.ret (.and (.isi (.loc 0) [.bt .str]) (.cmp .nin (.str (Str.ofString "\n")) (.loc 0)))) .nil) }
/-- is_text -/
def d2 : Dfn := { ps := [1], star := false, dfl := [], sh := [], ns := 2, cells := [], body := (.cons (.ret (.and (.isi (.loc 0) [.bt .lst, .bt .tup]) (.and (.cmp .le (.bf .len (.cons (.loc 0) .nil)) (.glo 7)) (.bf .all (.cons (.lc (.call 8 (.cons (.loc 1) .nil)) (.name 1) (.ex (.loc 0)) .nil [1]) .nil))))) .nil) }
/-- check_text -/
def d3 : Dfn := { ps := [1], star := false, dfl := [], sh := [], ns := 1, cells := [], body := (.cons (.ite (.not (.call 9 (.cons (.loc 0) .nil))) (.cons (.raise 2 (.cons (.loc 0) .nil)) .nil) .nil) .nil) }
/-- check_texts -/
def d4 : Dfn := { ps := [], star := true, dfl := [], sh := [], ns := 2, cells := [], body := (.cons (.for_ (.name 1) (.ex (.loc 0)) (.cons (.expr (.call 10 (.cons (.loc 1) .nil))) .nil)) .nil) }
/-- is_cost -/
def d5 : Dfn := { ps := [1], star := false, dfl := [], sh := [], ns := 1, cells := [], body := (.cons (.ret (.and (.isi (.loc 0) [.bt .int]) (.and (.not (.isi (.loc 0) [.bt .bl])) (.chain .le .le (.int 1) (.loc 0) (.ccon 16 2))))) .nil) }
/-- are_own -/
def d6 : Dfn := { ps := [1], star := false, dfl := [], sh := [], ns := 2, cells := [], body := (.cons (.ret (.and (.isi (.loc 0) [.bt .tup]) (.and (.cmp .eq (.bf .len (.cons (.loc 0) .nil)) (.int 2)) (.bf .all (.cons (.lc (.call 12 (.cons (.loc 1) .nil)) (.name 1) (.ex (.loc 0)) .nil [1]) .nil))))) .nil) }
/-- check_costs -/
def d7 : Dfn := { ps := [1], star := false, dfl := [], sh := [], ns := 1, cells := [], body := (.cons (.ite (.not (.isi (.loc 0) [.own 6])) (.cons (.raise 3 (.cons (.str (Str.ofString "costs")) (.cons (.loc 0) .nil))) .nil) .nil) .nil) }
/-- own_costs -/
def d8 : Dfn := { ps := [3], star := false, dfl := [], sh := [], ns := 3, cells := [], body := (.cons (.ite (.cmp .is (.loc 0) .non) (.cons (.ret (.dic .nil)) .nil) .nil) (.cons (.ite (.not (.isi (.loc 0) [.bt .dct])) (.cons (.raise 3 (.cons (.str (Str.ofString "some")) (.cons (.loc 0) .nil))) .nil) .nil) (.cons (.for_ (.tup (.cons (.name 1) (.cons (.name 2) .nil))) (.ex .unk) (.cons (.ite (.not (.call 8 (.cons (.loc 1) .nil))) (.cons (.raise 3 (.cons (.str (Str.ofString "line")) (.cons (.loc 1) .nil))) .nil) .nil) (.cons (.ite (.not (.call 13 (.cons (.loc 2) .nil))) (.cons (.raise 3 (.cons (.str (Str.ofString "own")) (.cons (.loc 2) .nil))) .nil) .nil) .nil))) (.cons (.ret .unk) .nil)))) }
/-- Costs.__init__ -/
def d9 : Dfn := { ps := [6, 7, 8, 3], star := false, dfl := [(7, (.int 1)), (8, (.int 1)), (3, .non)], sh := [(3, [])], ns := 6, cells := [], body := (.cons (.ite (.not (.call 12 (.cons (.loc 1) .nil))) (.cons (.raise 3 (.cons (.str (Str.ofString "going")) (.cons (.loc 1) .nil))) .nil) .nil) (.cons (.ite (.not (.call 12 (.cons (.loc 2) .nil))) (.cons (.raise 3 (.cons (.str (Str.ofString "coming")) (.cons (.loc 2) .nil))) .nil) .nil) (.cons (.asg (.fld (.loc 0) 4) (.tup (.cons (.loc 1) (.cons (.loc 2) .nil)))) (.cons (.asg (.fld (.loc 0) 5) (.dc0 (.call 15 (.cons (.loc 3) .nil)))) .nil)))) }
/-- Costs.costs_of -/
def d10 : Dfn := { ps := [6, 9], star := false, dfl := [], sh := [], ns := 2, cells := [], body := (.cons (.ite (.not (.call 8 (.cons (.loc 1) .nil))) (.cons (.raise 3 (.cons (.str (Str.ofString "line")) (.cons (.loc 1) .nil))) .nil) .nil) (.cons (.ret (.dget (.fld (.loc 0) 5) (.loc 1) (.fld (.loc 0) 4))) .nil)) }
/-- Costs.going -/
def d11 : Dfn := { ps := [6, 9], star := false, dfl := [], sh := [], ns := 2, cells := [], body := (.cons (.ret (.sub (.meth (.loc 0) 10 (.cons (.loc 1) .nil)) (.int 0))) .nil) }
/-- Costs.coming -/
def d12 : Dfn := { ps := [6, 9], star := false, dfl := [], sh := [], ns := 2, cells := [], body := (.cons (.ret (.sub (.meth (.loc 0) 10 (.cons (.loc 1) .nil)) (.int 1))) .nil) }
/-- Costs.some -/
def d13 : Dfn := { ps := [6], star := false, dfl := [], sh := [], ns := 1, cells := [], body := (.cons (.ret .unk) .nil) }
/-- Costs.turned_about -/
def d14 : Dfn := { ps := [6], star := false, dfl := [], sh := [], ns := 1, cells := [], body := (.cons (.expr (.call 0 (.cons (.int 1) .nil))) .nil) }
/-- is_integer -/
def d15 : Dfn := { ps := [1, 11, 12], star := false, dfl := [], sh := [], ns := 3, cells := [], body := (.cons (.ret (.and (.isi (.loc 0) [.bt .int]) (.and (.not (.isi (.loc 0) [.bt .bl])) (.chain .le .le (.loc 1) (.loc 0) (.loc 2))))) .nil) }
/-- is_pair -/
def d16 : Dfn := { ps := [13, 14, 1], star := false, dfl := [], sh := [], ns := 3, cells := [], body := (.cons (.ite (.or (.not (.isi (.loc 2) [.bt .tup])) (.cmp .ne (.bf .len (.cons (.loc 2) .nil)) (.int 2))) (.cons (.ret (.bl false)) .nil) .nil) (.cons (.ite (.or (.not (.call 17 (.cons (.sub (.loc 2) (.int 0)) (.cons (.int 1) (.cons (.bf .len (.cons (.loc 0) .nil)) .nil))))) (.not (.call 17 (.cons (.sub (.loc 2) (.int 1)) (.cons (.int 1) (.cons (.bf .len (.cons (.loc 1) .nil)) .nil)))))) (.cons (.ret (.bl false)) .nil) .nil) (.cons (.ret (.cmp .eq (.sub (.loc 0) (.bin .sub (.sub (.loc 2) (.int 0)) (.int 1))) (.sub (.loc 1) (.bin .sub (.sub (.loc 2) (.int 1)) (.int 1))))) .nil))) }
/-- has_form -/
def d17 : Dfn := { ps := [13, 14, 1], star := false, dfl := [], sh := [], ns := 6, cells := [], body := (.cons (.ite (.or (.not (.isi (.loc 2) [.bt .tup])) (.not (.bf .all (.cons (.lc (.call 18 (.cons (.loc 0) (.cons (.loc 1) (.cons (.loc 3) .nil)))) (.name 3) (.ex (.loc 2)) .nil [3]) .nil)))) (.cons (.ret (.bl false)) .nil) .nil) (.cons (.ret (.bf .all (.cons (.lc (.and (.cmp .lt (.sub (.loc 4) (.int 0)) (.sub (.loc 5) (.int 0))) (.cmp .lt (.sub (.loc 4) (.int 1)) (.sub (.loc 5) (.int 1)))) (.tup (.cons (.name 4) (.cons (.name 5) .nil))) (.ex .unk) .nil [4, 5]) .nil))) .nil)) }
/-- is_diff -/
def d18 : Dfn := { ps := [13, 14, 1], star := false, dfl := [], sh := [], ns := 3, cells := [], body := (.cons (.expr (.call 11 (.cons (.loc 0) (.cons (.loc 1) .nil)))) (.cons (.ret (.call 19 (.cons (.loc 0) (.cons (.loc 1) (.cons (.loc 2) .nil))))) .nil)) }
/-- check_diff -/
def d19 : Dfn := { ps := [13, 14, 1], star := false, dfl := [], sh := [], ns := 3, cells := [], body := (.cons (.ite (.not (.call 20 (.cons (.loc 0) (.cons (.loc 1) (.cons (.loc 2) .nil))))) (.cons (.raise 4 (.cons (.loc 2) .nil)) .nil) .nil) .nil) }
/-- blocks_of -/
def d20 : Dfn := { ps := [13, 14, 15], star := false, dfl := [], sh := [], ns := 8, cells := [], body := (.cons (.expr (.call 21 (.cons (.loc 0) (.cons (.loc 1) (.cons (.loc 2) .nil))))) (.cons (.asg (.name 3) (.lst .nil)) (.cons (.asg (.tup (.cons (.name 4) (.cons (.name 5) .nil))) (.tup (.cons (.int 0) (.cons (.int 0) .nil)))) (.cons (.for_ (.tup (.cons (.name 6) (.cons (.name 7) .nil))) (.ex (.bin .add (.loc 2) (.tup (.cons (.tup (.cons (.bin .add (.bf .len (.cons (.loc 0) .nil)) (.int 1)) (.cons (.bin .add (.bf .len (.cons (.loc 1) .nil)) (.int 1)) .nil))) .nil)))) (.cons (.ite (.cmp .ne (.tup (.cons (.loc 4) (.cons (.loc 5) .nil))) (.tup (.cons (.bin .sub (.loc 6) (.int 1)) (.cons (.bin .sub (.loc 7) (.int 1)) .nil)))) (.cons (.expr (.app (.loc 3) (.tup (.cons (.loc 4) (.cons (.bin .sub (.loc 6) (.int 1)) (.cons (.loc 5) (.cons (.bin .sub (.loc 7) (.int 1)) .nil))))))) .nil) .nil) (.cons (.asg (.tup (.cons (.name 4) (.cons (.name 5) .nil))) (.tup (.cons (.loc 6) (.cons (.loc 7) .nil)))) .nil))) (.cons (.ret (.loc 3)) .nil))))) }
/-- kept_lines -/
def d21 : Dfn := { ps := [13, 14, 15], star := false, dfl := [], sh := [], ns := 5, cells := [], body := (.cons (.expr (.call 21 (.cons (.loc 0) (.cons (.loc 1) (.cons (.loc 2) .nil))))) (.cons (.ret (.lc (.loc 3) (.tup (.cons (.name 3) (.cons (.name 4) .nil))) (.ex (.loc 2)) .nil [3, 4])) .nil)) }
/-- gone_lines -/
def d22 : Dfn := { ps := [13, 14, 15], star := false, dfl := [], sh := [], ns := 5, cells := [], body := (.cons (.asg (.name 3) (.call 23 (.cons (.loc 0) (.cons (.loc 1) (.cons (.loc 2) .nil))))) (.cons (.ret (.lc (.loc 4) (.name 4) (.rng2 (.int 1) (.bin .add (.bf .len (.cons (.loc 0) .nil)) (.int 1))) (.cons (.cmp .nin (.loc 4) (.loc 3)) .nil) [4])) .nil)) }
/-- come_lines -/
def d23 : Dfn := { ps := [13, 14, 15], star := false, dfl := [], sh := [], ns := 6, cells := [], body := (.cons (.expr (.call 21 (.cons (.loc 0) (.cons (.loc 1) (.cons (.loc 2) .nil))))) (.cons .unk (.cons (.ret (.lc (.loc 5) (.name 5) (.rng2 (.int 1) (.bin .add (.bf .len (.cons (.loc 1) .nil)) (.int 1))) (.cons (.cmp .nin (.loc 5) (.loc 3)) .nil) [5])) .nil))) }
/-- cost_of -/
def d24 : Dfn := { ps := [13, 14, 15, 16], star := false, dfl := [], sh := [], ns := 7, cells := [], body := (.cons (.expr (.call 21 (.cons (.loc 0) (.cons (.loc 1) (.cons (.loc 2) .nil))))) (.cons (.expr (.call 14 (.cons (.loc 3) .nil))) (.cons (.asg (.name 4) (.bf .sum (.cons (.lc (.meth (.loc 3) 7 (.cons (.sub (.loc 0) (.bin .sub (.loc 5) (.int 1))) .nil)) (.name 5) (.ex (.call 24 (.cons (.loc 0) (.cons (.loc 1) (.cons (.loc 2) .nil))))) .nil [5]) .nil))) (.cons (.ret (.bin .add (.loc 4) (.bf .sum (.cons (.lc (.meth (.loc 3) 8 (.cons (.sub (.loc 1) (.bin .sub (.loc 6) (.int 1))) .nil)) (.name 6) (.ex (.call 25 (.cons (.loc 0) (.cons (.loc 1) (.cons (.loc 2) .nil))))) .nil [6]) .nil)))) .nil)))) }
/-- next_places -/
def d25 : Dfn := { ps := [13, 14, 17], star := false, dfl := [], sh := [], ns := 6, cells := [], body := (.cons (.asg (.tup (.cons (.name 3) (.cons (.name 4) .nil))) (.loc 2)) (.cons (.asg (.name 5) (.lst .nil)) (.cons (.ite (.cmp .lt (.loc 3) (.bf .len (.cons (.loc 0) .nil))) (.cons (.expr (.app (.loc 5) (.tup (.cons (.bin .add (.loc 3) (.int 1)) (.cons (.loc 4) .nil))))) .nil) .nil) (.cons (.ite (.and (.cmp .lt (.loc 3) (.bf .len (.cons (.loc 0) .nil))) (.and (.cmp .lt (.loc 4) (.bf .len (.cons (.loc 1) .nil))) (.cmp .eq (.sub (.loc 0) (.loc 3)) (.sub (.loc 1) (.loc 4))))) (.cons (.expr (.app (.loc 5) (.tup (.cons (.bin .add (.loc 3) (.int 1)) (.cons (.bin .add (.loc 4) (.int 1)) .nil))))) .nil) .nil) (.cons (.ite (.cmp .lt (.loc 4) (.bf .len (.cons (.loc 1) .nil))) (.cons (.expr (.app (.loc 5) (.tup (.cons (.loc 3) (.cons (.bin .add (.loc 4) (.int 1)) .nil))))) .nil) .nil) (.cons (.ret (.loc 5)) .nil)))))) }
/-- is_pair_step -/
def d26 : Dfn := { ps := [18, 19], star := false, dfl := [], sh := [], ns := 2, cells := [], body := (.cons (.ret (.and (.cmp .lt (.sub (.loc 0) (.int 0)) (.sub (.loc 1) (.int 0))) (.cmp .lt (.sub (.loc 0) (.int 1)) (.sub (.loc 1) (.int 1))))) .nil) }
/-- step_cost -/
def d27 : Dfn := { ps := [13, 14, 16, 18, 19], star := false, dfl := [], sh := [], ns := 5, cells := [], body := (.cons (.ite (.call 28 (.cons (.loc 3) (.cons (.loc 4) .nil))) (.cons (.ret (.int 0)) .nil) .nil) (.cons (.ret (.ite (.cmp .lt (.sub (.loc 3) (.int 0)) (.sub (.loc 4) (.int 0))) (.meth (.loc 2) 7 (.cons (.sub (.loc 0) (.sub (.loc 3) (.int 0))) .nil)) (.meth (.loc 2) 8 (.cons (.sub (.loc 1) (.sub (.loc 3) (.int 1))) .nil)))) .nil)) }
/-- all_steps -/
def d28 : Dfn := { ps := [13, 14], star := false, dfl := [], sh := [], ns := 7, cells := [], body := (.cons .unk (.cons (.ret .unk) .nil)) }
/-- is_number -/
def d29 : Dfn := { ps := [1], star := false, dfl := [], sh := [], ns := 1, cells := [], body := (.cons (.ret (.and (.isi (.loc 0) [.bt .int]) (.not (.isi (.loc 0) [.bt .bl])))) .nil) }
/-- lesser -/
def d30 : Dfn := { ps := [18, 19], star := false, dfl := [], sh := [], ns := 2, cells := [], body := (.cons (.ite (.or (.cmp .is (.loc 0) .non) (.cmp .is (.loc 1) .non)) (.cons (.ret (.ite (.cmp .is (.loc 0) .non) (.loc 1) (.loc 0))) .nil) .nil) (.cons (.ret (.bf .min (.cons (.loc 0) (.cons (.loc 1) .nil)))) .nil)) }
/-- raised -/
def d31 : Dfn := { ps := [20, 21], star := false, dfl := [], sh := [], ns := 2, cells := [], body := (.cons (.ret (.ite (.cmp .is (.loc 0) .non) .non (.bin .add (.loc 0) (.loc 1)))) .nil) }
/-- empty_table -/
def d32 : Dfn := { ps := [13, 14], star := false, dfl := [], sh := [], ns := 3, cells := [], body := (.cons (.ret (.lc (.bin .mul (.lst (.cons .non .nil)) (.bin .add (.bf .len (.cons (.loc 1) .nil)) (.int 1))) (.name 2) (.rng1 (.bin .add (.bf .len (.cons (.loc 0) .nil)) (.int 1))) .nil [2])) .nil) }
/-- layer_behind -/
def d33 : Dfn := { ps := [13, 14, 16, 22], star := false, dfl := [], sh := [], ns := 12, cells := [], body := (.cons (.asg (.tup (.cons (.name 4) (.cons (.name 5) .nil))) (.tup (.cons (.call 37 (.cons (.loc 0) (.cons (.loc 1) .nil))) (.cons (.call 37 (.cons (.loc 0) (.cons (.loc 1) .nil))) .nil)))) (.cons (.asg (.sub (.sub (.loc 4) (.int 0)) (.int 0)) (.int 0)) (.cons (.for_ (.name 6) (.rng1 (.bin .add (.bf .len (.cons (.loc 0) .nil)) (.int 1))) (.cons (.for_ (.name 7) (.rng1 (.bin .add (.bf .len (.cons (.loc 1) .nil)) (.int 1))) (.cons (.for_ (.tup (.cons (.name 8) (.cons (.name 9) .nil))) (.ex (.call 27 (.cons (.loc 0) (.cons (.loc 1) (.cons (.tup (.cons (.loc 6) (.cons (.loc 7) .nil))) .nil))))) (.cons (.ite (.call 28 (.cons (.tup (.cons (.loc 6) (.cons (.loc 7) .nil))) (.cons (.tup (.cons (.loc 8) (.cons (.loc 9) .nil))) .nil))) (.cons (.asg (.sub (.sub (.loc 4) (.loc 8)) (.loc 9)) (.call 32 (.cons (.sub (.sub (.loc 4) (.loc 8)) (.loc 9)) (.cons (.call 32 (.cons (.sub (.sub (.loc 4) (.loc 6)) (.loc 7)) (.cons (.sub (.sub (.loc 5) (.loc 6)) (.loc 7)) .nil))) .nil)))) .nil) (.cons (.asg (.name 10) (.call 29 (.cons (.loc 0) (.cons (.loc 1) (.cons (.loc 2) (.cons (.tup (.cons (.loc 6) (.cons (.loc 7) .nil))) (.cons (.tup (.cons (.loc 8) (.cons (.loc 9) .nil))) .nil))))))) (.cons (.asg (.name 11) (.ite (.cmp .is (.loc 3) .non) .non (.call 33 (.cons (.sub (.sub (.sub (.loc 3) (.int 0)) (.loc 6)) (.loc 7)) (.cons (.loc 10) .nil))))) (.cons (.asg (.sub (.sub (.loc 5) (.loc 8)) (.loc 9)) (.call 32 (.cons (.sub (.sub (.loc 5) (.loc 8)) (.loc 9)) (.cons (.call 32 (.cons (.loc 11) (.cons (.call 33 (.cons (.sub (.sub (.loc 5) (.loc 6)) (.loc 7)) (.cons (.loc 10) .nil))) .nil))) .nil)))) .nil)))) .nil)) .nil)) .nil)) (.cons (.ret (.tup (.cons (.loc 4) (.cons (.loc 5) .nil)))) .nil)))) }
/-- layers_to -/
def d34 : Dfn := { ps := [13, 14, 16, 23], star := false, dfl := [], sh := [], ns := 7, cells := [], body := (.cons (.asg (.tup (.cons (.name 4) (.cons (.name 5) .nil))) (.tup (.cons (.lst .nil) (.cons .non .nil)))) (.cons (.for_ (.name 6) (.rng1 (.bin .add (.loc 3) (.int 1))) (.cons (.asg (.name 5) (.call 38 (.cons (.loc 0) (.cons (.loc 1) (.cons (.loc 2) (.cons (.loc 5) .nil)))))) (.cons (.expr (.app (.loc 4) (.loc 5))) .nil))) (.cons (.ret (.loc 4)) .nil))) }
/-- top_number -/
def d35 : Dfn := { ps := [24], star := false, dfl := [], sh := [], ns := 1, cells := [], body := (.cons (.ret (.call 32 (.cons (.sub (.sub (.sub (.loc 0) (.int 0)) (.neg (.int 1))) (.neg (.int 1))) (.cons (.sub (.sub (.sub (.loc 0) (.int 1)) (.neg (.int 1))) (.neg (.int 1))) .nil)))) .nil) }
/-- most_blocks -/
def d36 : Dfn := { ps := [13, 14], star := false, dfl := [], sh := [], ns := 2, cells := [], body := (.cons (.ret (.bf .min (.cons (.glo 34) (.cons (.bin .add (.bf .len (.cons (.loc 0) .nil)) (.bf .len (.cons (.loc 1) .nil))) .nil)))) .nil) }
/-- state_ahead -/
def d37 : Dfn := { ps := [13, 14, 16, 25, 26], star := false, dfl := [], sh := [], ns := 14, cells := [], body := (.cons (.asg (.tup (.cons (.tup (.cons (.name 5) (.cons (.name 6) .nil))) (.cons (.name 7) (.cons (.name 8) .nil)))) (.loc 4)) (.cons (.ite (.not (.loc 7)) (.cons (.asg (.name 9) (.tup (.cons (.bin .sub (.loc 5) (.int 1)) (.cons (.bin .sub (.loc 6) (.int 1)) .nil)))) (.cons (.asg (.tup (.cons (.name 10) (.cons (.name 11) .nil))) (.tup (.cons (.sub (.sub (.sub (.sub (.loc 3) (.loc 8)) (.int 0)) (.bin .sub (.loc 5) (.int 1))) (.bin .sub (.loc 6) (.int 1))) (.cons (.sub (.sub (.sub (.sub (.loc 3) (.loc 8)) (.int 1)) (.bin .sub (.loc 5) (.int 1))) (.bin .sub (.loc 6) (.int 1))) .nil)))) (.cons (.ret (.tup (.cons (.loc 9) (.cons (.ite (.and (.cmp .isn (.loc 10) .non) (.or (.cmp .is (.loc 11) .non) (.cmp .le (.loc 10) (.loc 11)))) (.int 0) (.int 1)) (.cons (.loc 8) .nil))))) .nil))) .nil) (.cons (.for_ (.name 9) (.ex (.tup (.cons (.tup (.cons (.bin .sub (.loc 5) (.int 1)) (.cons (.loc 6) .nil))) (.cons (.tup (.cons (.loc 5) (.cons (.bin .sub (.loc 6) (.int 1)) .nil))) .nil)))) (.cons (.ite (.cmp .ge (.bf .min (.cons (.loc 9) .nil)) (.int 0)) (.cons (.asg (.name 12) (.call 29 (.cons (.loc 0) (.cons (.loc 1) (.cons (.loc 2) (.cons (.loc 9) (.cons (.tup (.cons (.loc 5) (.cons (.loc 6) .nil))) .nil))))))) (.cons (.for_ (.name 13) (.ex (.tup (.cons (.tup (.cons (.loc 9) (.cons (.int 1) (.cons (.loc 8) .nil)))) (.cons (.tup (.cons (.loc 9) (.cons (.int 0) (.cons (.bin .sub (.loc 8) (.int 1)) .nil)))) .nil)))) (.cons (.ite (.and (.cmp .ge (.sub (.loc 13) (.int 2)) (.int 0)) (.cmp .eq (.call 33 (.cons (.call 43 (.cons (.loc 3) (.cons (.loc 13) .nil))) (.cons (.loc 12) .nil))) (.call 43 (.cons (.loc 3) (.cons (.loc 4) .nil))))) (.cons (.ret (.loc 13)) .nil) .nil) .nil)) .nil)) .nil) .nil)) (.cons (.ret .non) .nil)))) }
/-- number_at -/
def d38 : Dfn := { ps := [25, 26], star := false, dfl := [], sh := [], ns := 6, cells := [], body := (.cons (.asg (.tup (.cons (.tup (.cons (.name 2) (.cons (.name 3) .nil))) (.cons (.name 4) (.cons (.name 5) .nil)))) (.loc 1)) (.cons (.ret (.sub (.sub (.sub (.sub (.loc 0) (.loc 5)) (.loc 4)) (.loc 2)) (.loc 3))) .nil)) }
/-- diff_of_layers -/
def d39 : Dfn := { ps := [13, 14, 16, 25], star := false, dfl := [], sh := [], ns := 10, cells := [], body := (.cons .unk (.cons (.asg (.name 7) (.ite (.cmp .eq (.sub (.sub (.sub (.sub (.loc 3) (.loc 6)) (.int 0)) (.neg (.int 1))) (.neg (.int 1))) (.call 40 (.cons (.sub (.loc 3) (.loc 6)) .nil))) (.int 0) (.int 1))) (.cons (.asg (.name 8) (.tup (.cons (.loc 4) (.cons (.loc 7) (.cons (.loc 6) .nil))))) (.cons .unk (.cons (.ret (.bf .tuple (.cons .unk .nil))) .nil))))) }
/-- is_row_or_none -/
def d40 : Dfn := { ps := [1, 23], star := false, dfl := [], sh := [], ns := 3, cells := [], body := (.cons (.ite (.or (.not (.isi (.loc 0) [.bt .lst, .bt .tup])) (.cmp .ne (.bf .len (.cons (.loc 0) .nil)) (.loc 1))) (.cons (.ret (.bl false)) .nil) .nil) (.cons (.ret (.bf .all (.cons (.lc (.or (.cmp .is (.loc 2) .non) (.call 31 (.cons (.loc 2) .nil))) (.name 2) (.ex (.loc 0)) .nil [2]) .nil))) .nil)) }
/-- is_layer -/
def d41 : Dfn := { ps := [13, 14, 1], star := false, dfl := [], sh := [], ns := 5, cells := [], body := (.cons (.ite (.or (.not (.isi (.loc 2) [.bt .tup])) (.cmp .ne (.bf .len (.cons (.loc 2) .nil)) (.int 2))) (.cons (.ret (.bl false)) .nil) .nil) (.cons (.for_ (.name 3) (.ex (.loc 2)) (.cons (.ite (.or (.not (.isi (.loc 3) [.bt .lst, .bt .tup])) (.cmp .ne (.bf .len (.cons (.loc 3) .nil)) (.bin .add (.bf .len (.cons (.loc 0) .nil)) (.int 1)))) (.cons (.ret (.bl false)) .nil) .nil) (.cons (.ite (.not (.bf .all (.cons (.lc (.call 45 (.cons (.loc 4) (.cons (.bin .add (.bf .len (.cons (.loc 1) .nil)) (.int 1)) .nil))) (.name 4) (.ex (.loc 3)) .nil [4]) .nil))) (.cons (.ret (.bl false)) .nil) .nil) .nil))) (.cons (.ret (.cmp .eq (.sub (.sub (.sub (.loc 2) (.int 0)) (.int 0)) (.int 0)) (.int 0))) .nil))) }
/-- binds -/
def d42 : Dfn := { ps := [27, 12], star := false, dfl := [], sh := [], ns := 2, cells := [], body := (.cons (.ret (.or (.cmp .is (.loc 1) .non) (.and (.cmp .isn (.loc 0) .non) (.cmp .le (.loc 0) (.loc 1))))) .nil) }
/-- are_layers -/
def d43 : Dfn := { ps := [13, 14, 16, 1], star := false, dfl := [], sh := [], ns := 14, cells := [], body := (.cons (.for_ (.tup (.cons (.name 4) (.cons (.tup (.cons (.name 5) (.cons (.name 6) .nil))) .nil))) (.enm (.loc 3)) (.cons (.for_ (.tup (.cons (.name 7) (.cons (.name 8) .nil))) (.ex (.call 30 (.cons (.loc 0) (.cons (.loc 1) .nil)))) (.cons (.asg (.tup (.cons (.name 9) (.cons (.name 10) .nil))) (.tup (.cons (.sub (.sub (.loc 5) (.sub (.loc 7) (.int 0))) (.sub (.loc 7) (.int 1))) (.cons (.sub (.sub (.loc 6) (.sub (.loc 7) (.int 0))) (.sub (.loc 7) (.int 1))) .nil)))) (.cons (.ite (.call 28 (.cons (.loc 7) (.cons (.loc 8) .nil))) (.cons (.asg (.tup (.cons (.name 11) (.cons (.name 12) .nil))) (.tup (.cons (.sub (.sub (.loc 5) (.sub (.loc 8) (.int 0))) (.sub (.loc 8) (.int 1))) (.cons (.call 32 (.cons (.loc 9) (.cons (.loc 10) .nil))) .nil)))) .nil) (.cons (.asg (.name 13) (.ite (.cmp .gt (.loc 4) (.int 0)) (.sub (.sub (.sub (.sub (.loc 3) (.bin .sub (.loc 4) (.int 1))) (.int 0)) (.sub (.loc 7) (.int 0))) (.sub (.loc 7) (.int 1))) .non)) (.cons (.asg (.name 12) (.call 33 (.cons (.call 32 (.cons (.loc 13) (.cons (.loc 10) .nil))) (.cons (.call 29 (.cons (.loc 0) (.cons (.loc 1) (.cons (.loc 2) (.cons (.loc 7) (.cons (.loc 8) .nil)))))) .nil)))) (.cons (.asg (.name 11) (.sub (.sub (.loc 6) (.sub (.loc 8) (.int 0))) (.sub (.loc 8) (.int 1)))) .nil)))) (.cons (.ite (.not (.call 47 (.cons (.loc 11) (.cons (.loc 12) .nil)))) (.cons (.ret (.bl false)) .nil) .nil) .nil)))) .nil)) (.cons (.ret (.bl true)) .nil)) }
/-- is_dear -/
def d44 : Dfn := { ps := [13, 14, 16, 23, 28, 1], star := false, dfl := [], sh := [], ns := 8, cells := [], body := (.cons (.ite (.or (.not (.isi (.loc 5) [.bt .tup])) (.cmp .ne (.bf .len (.cons (.loc 5) .nil)) (.bin .add (.loc 3) (.int 1)))) (.cons (.ret (.bl false)) .nil) .nil) (.cons (.ite (.not (.bf .all (.cons (.lc (.call 46 (.cons (.loc 0) (.cons (.loc 1) (.cons (.loc 7) .nil)))) (.name 7) (.ex (.loc 5)) .nil [7]) .nil))) (.cons (.ret (.bl false)) .nil) .nil) (.cons (.asg (.name 6) (.call 40 (.cons (.sub (.loc 5) (.neg (.int 1))) .nil))) (.cons (.ret (.and (.call 48 (.cons (.loc 0) (.cons (.loc 1) (.cons (.loc 2) (.cons (.loc 5) .nil))))) (.or (.cmp .is (.loc 6) .non) (.cmp .gt (.loc 6) (.loc 4))))) .nil)))) }
/-- check_case -/
def d45 : Dfn := { ps := [13, 14, 16, 23], star := false, dfl := [], sh := [], ns := 4, cells := [], body := (.cons (.expr (.call 11 (.cons (.loc 0) (.cons (.loc 1) .nil)))) (.cons (.expr (.call 14 (.cons (.loc 2) .nil))) (.cons (.ite (.not (.call 17 (.cons (.loc 3) (.cons (.int 0) (.cons (.glo 34) .nil))))) (.cons (.raise 6 (.cons (.loc 3) .nil)) .nil) .nil) .nil))) }
/-- check_budget -/
def d46 : Dfn := { ps := [1], star := false, dfl := [], sh := [], ns := 1, cells := [], body := (.cons (.ite (.not (.call 31 (.cons (.loc 0) .nil))) (.cons (.raise 5 (.cons (.loc 0) .nil)) .nil) .nil) .nil) }
/-- least_with_blocks -/
def d47 : Dfn := { ps := [13, 14, 16, 23], star := false, dfl := [], sh := [(0, [23, 16, 14, 13])], ns := 4, cells := [], body := (.cons (.expr (.call 50 (.cons (.loc 0) (.cons (.loc 1) (.cons (.loc 2) (.cons (.loc 3) .nil)))))) (.cons (.ret (.call 40 (.cons (.sub (.call 39 (.cons (.loc 0) (.cons (.loc 1) (.cons (.loc 2) (.cons (.loc 3) .nil))))) (.neg (.int 1))) .nil))) .nil)) }
/-- blocks_front -/
def d48 : Dfn := { ps := [13, 14, 16], star := false, dfl := [], sh := [(0, [16, 14, 13])], ns := 7, cells := [], body := (.cons (.expr (.call 11 (.cons (.loc 0) (.cons (.loc 1) .nil)))) (.cons (.expr (.call 14 (.cons (.loc 2) .nil))) (.cons (.asg (.name 3) (.lst .nil)) (.cons (.for_ (.tup (.cons (.name 4) (.cons (.name 5) .nil))) (.enm (.call 39 (.cons (.loc 0) (.cons (.loc 1) (.cons (.loc 2) (.cons (.call 41 (.cons (.loc 0) (.cons (.loc 1) .nil))) .nil)))))) (.cons (.asg (.name 6) (.call 40 (.cons (.loc 5) .nil))) (.cons (.ite (.and (.cmp .isn (.loc 6) .non) (.or (.cmp .eq (.loc 3) (.lst .nil)) (.cmp .lt (.loc 6) (.sub (.sub (.loc 3) (.neg (.int 1))) (.int 1))))) (.cons (.expr (.app (.loc 3) (.tup (.cons (.loc 4) (.cons (.loc 6) .nil))))) .nil) .nil) .nil))) (.cons (.ret (.loc 3)) .nil))))) }
/-- front_paper -/
def d49 : Dfn := { ps := [13, 14, 16, 23, 28], star := false, dfl := [], sh := [], ns := 7, cells := [], body := (.cons (.expr (.call 50 (.cons (.loc 0) (.cons (.loc 1) (.cons (.loc 2) (.cons (.loc 3) .nil)))))) (.cons (.expr (.call 51 (.cons (.loc 4) .nil))) (.cons (.asg (.name 5) (.call 39 (.cons (.loc 0) (.cons (.loc 1) (.cons (.loc 2) (.cons (.loc 3) .nil)))))) (.cons (.asg (.name 6) (.call 40 (.cons (.sub (.loc 5) (.neg (.int 1))) .nil))) (.cons (.ite (.and (.cmp .isn (.loc 6) .non) (.cmp .le (.loc 6) (.loc 4))) (.cons (.ret (.tup (.cons (.glo 35) (.cons (.call 44 (.cons (.loc 0) (.cons (.loc 1) (.cons (.loc 2) (.cons (.loc 5) .nil))))) .nil)))) .nil) .nil) (.cons (.ret (.tup (.cons (.glo 36) (.cons (.bf .tuple (.cons (.loc 5) .nil)) .nil)))) .nil)))))) }
/-- is_front_paper -/
def d50 : Dfn := { ps := [13, 14, 16, 23, 28, 1], star := false, dfl := [], sh := [(0, [1, 28, 23, 16, 14, 13])], ns := 6, cells := [], body := (.cons (.expr (.call 50 (.cons (.loc 0) (.cons (.loc 1) (.cons (.loc 2) (.cons (.loc 3) .nil)))))) (.cons (.expr (.call 51 (.cons (.loc 4) .nil))) (.cons (.ite (.or (.not (.isi (.loc 5) [.bt .tup])) (.or (.cmp .ne (.bf .len (.cons (.loc 5) .nil)) (.int 2)) (.not (.isi (.sub (.loc 5) (.int 0)) [.bt .str])))) (.cons (.ret (.bl false)) .nil) .nil) (.cons (.ite (.cmp .eq (.sub (.loc 5) (.int 0)) (.glo 36)) (.cons (.ret (.call 49 (.cons (.loc 0) (.cons (.loc 1) (.cons (.loc 2) (.cons (.loc 3) (.cons (.loc 4) (.cons (.sub (.loc 5) (.int 1)) .nil)))))))) .nil) .nil) (.cons (.ite (.or (.cmp .ne (.sub (.loc 5) (.int 0)) (.glo 35)) (.not (.call 19 (.cons (.loc 0) (.cons (.loc 1) (.cons (.sub (.loc 5) (.int 1)) .nil)))))) (.cons (.ret (.bl false)) .nil) .nil) (.cons (.ret (.and (.cmp .le (.bf .len (.cons (.call 22 (.cons (.loc 0) (.cons (.loc 1) (.cons (.sub (.loc 5) (.int 1)) .nil)))) .nil)) (.loc 3)) (.cmp .le (.call 26 (.cons (.loc 0) (.cons (.loc 1) (.cons (.sub (.loc 5) (.int 1)) (.cons (.loc 2) .nil))))) (.loc 4)))) .nil)))))) }
/-- _law_pot -/
def d51 : Dfn := { ps := [29, 0], star := false, dfl := [], sh := [], ns := 3, cells := [], body := (.cons (.asg (.name 2) (.ite (.cmp .lt (.loc 1) (.bf .len (.cons (.loc 0) .nil))) (.bf .abs (.cons (.sub (.loc 0) (.loc 1)) .nil)) (.bin .add (.bin .mul (.int 2341) (.loc 1)) (.int 1549)))) (.cons (.ret (.lst (.cons (.bf .max (.cons (.int 0) (.cons (.bin .sub (.loc 2) (.bin .pow (.int 10) (.int 18))) .nil))) (.cons (.bin .add (.bin .mod (.bf .int (.cons (.bin .add (.bin .add (.bin .mul (.bin .mod (.bf .int (.cons (.loc 2) .nil)) (.int 2147483549)) (.int 41473)) (.bin .mul (.int 1549) (.loc 1))) (.int 709)) .nil)) (.int 2147483563)) (.int 1)) .nil)))) .nil)) }
/-- _law_draw -/
def d52 : Dfn := { ps := [30, 23], star := false, dfl := [], sh := [], ns := 3, cells := [], body := (.cons (.ite (.cmp .gt (.sub (.loc 0) (.int 0)) (.int 0)) (.cons (.asg (.tup (.cons (.sub (.loc 0) (.int 0)) (.cons (.name 2) .nil))) (.bf .divmod (.cons (.sub (.loc 0) (.int 0)) (.cons (.loc 1) .nil)))) (.cons (.ret (.loc 2)) .nil)) .nil) (.cons (.asg (.sub (.loc 0) (.int 1)) (.bin .mod (.bf .int (.cons (.bin .add (.bin .mul (.sub (.loc 0) (.int 1)) (.int 48271)) (.int 2341)) .nil)) (.int 2147483587))) (.cons (.ret (.bin .mod (.bf .int (.cons (.bin .fdiv (.bin .mod (.bf .int (.cons (.bin .mul (.sub (.loc 0) (.int 1)) (.sub (.loc 0) (.int 1))) .nil)) (.int 2147483549)) (.int 613)) .nil)) (.loc 1))) .nil))) }
/-- _law_pick -/
def d53 : Dfn := { ps := [30, 3], star := false, dfl := [], sh := [], ns := 2, cells := [], body := (.cons (.ret (.sub (.loc 1) (.call 57 (.cons (.loc 0) (.cons (.bf .len (.cons (.loc 1) .nil)) .nil))))) .nil) }
/-- _law_heard -/
def d54 : Dfn := { ps := [32], star := false, dfl := [], sh := [], ns := 3, cells := [], body := (.cons (.asg (.name 1) (.lst (.cons (.str (Str.ofString "let")) .nil))) (.cons (.try_ (.cons (.expr (.callv (.loc 0))) .nil) (.cons 2 2 (.cons (.asg (.name 1) (.lst (.cons (.str (Str.ofString "text")) (.cons (.bf .repr (.cons (.fld (.loc 2) 1) .nil)) (.cons (.isi (.loc 2) [.own 0]) .nil))))) .nil) (.cons 3 2 (.cons (.asg (.name 1) (.lst (.cons (.str (Str.ofString "costs")) (.cons (.fld (.loc 2) 31) (.cons (.bf .repr (.cons (.fld (.loc 2) 1) .nil)) .nil))))) .nil) (.cons 6 2 (.cons (.asg (.name 1) (.lst (.cons (.str (Str.ofString "count")) (.cons (.bf .repr (.cons (.fld (.loc 2) 1) .nil)) (.cons (.isi (.loc 2) [.own 0]) .nil))))) .nil) (.cons 5 2 (.cons (.asg (.name 1) (.lst (.cons (.str (Str.ofString "budget")) (.cons (.bf .repr (.cons (.fld (.loc 2) 1) .nil)) (.cons (.isi (.loc 2) [.own 0]) .nil))))) .nil) .nil))))) (.cons (.ret (.loc 1)) .nil))) }
/-- _law_calls -/
def d55 : Dfn := { ps := [13, 14, 16, 23, 28], star := false, dfl := [], sh := [], ns := 6, cells := [0, 1, 2, 3, 4], body := (.cons (.asg (.name 5) (.lst (.cons (.lam 58) .nil))) (.cons (.expr (.app (.loc 5) (.lam 59))) (.cons (.expr (.app (.loc 5) (.lam 60))) (.cons (.expr (.app (.loc 5) (.lam 61))) (.cons (.expr (.app (.loc 5) (.lam 62))) (.cons (.ret (.loc 5)) .nil)))))) }
/-- _law_right -/
def d56 : Dfn := { ps := [30], star := false, dfl := [], sh := [], ns := 9, cells := [1, 2, 3, 4], body := (.cons (.asg (.tup (.cons (.name 1) (.cons (.name 2) (.cons (.name 3) .nil)))) (.tup (.cons (.lst (.cons (.str (Str.ofString "a")) (.cons (.str (Str.ofString "b")) (.cons (.str (Str.ofString "a")) .nil)))) (.cons (.lst (.cons (.str (Str.ofString "b")) (.cons (.str (Str.ofString "a")) (.cons (.str (Str.ofString "c")) .nil)))) (.cons (.call 16 (.cons (.int 1) (.cons (.int 2) .nil))) .nil))))) (.cons (.asg (.name 4) (.call 58 (.cons (.loc 0) (.cons (.lst (.cons .non (.cons (.str (Str.ofString "ab")) (.cons (.int 5) (.cons (.lst (.cons (.str (Str.ofString "a")) (.cons (.int 1) .nil))) (.cons (.bin .mul (.lst (.cons (.str (Str.ofString "a")) .nil)) (.int 61)) (.cons (.dic .nil) (.cons (.lst (.cons .non .nil)) .nil)))))))) .nil)))) (.cons (.asg (.name 5) (.bin .add (.bin .add (.call 60 (.cons (.loc 4) (.cons (.loc 4) (.cons (.loc 4) (.cons (.loc 4) (.cons (.loc 4) .nil)))))) (.call 60 (.cons (.loc 1) (.cons (.loc 4) (.cons .non (.cons .non (.cons .non .nil))))))) (.lst (.cons (.lam 63) .nil)))) (.cons (.ite (.not (.bf .all (.cons (.lc (.cmp .eq (.call 59 (.cons (.loc 8) .nil)) (.lst (.cons (.str (Str.ofString "text")) (.cons (.bf .repr (.cons (.loc 4) .nil)) (.cons (.bl true) .nil))))) (.name 8) (.ex (.loc 5)) .nil [8]) .nil))) (.cons (.ret (.bl false)) .nil) .nil) (.cons (.asg (.name 4) (.call 58 (.cons (.loc 0) (.cons (.lst (.cons .non (.cons (.str (Str.ofString "blocks")) (.cons (.int 5) (.cons (.tup (.cons (.int 1) (.cons (.int 2) .nil))) (.cons (.dic .nil) .nil)))))) .nil)))) (.cons (.asg (.name 5) (.bin .add (.call 60 (.cons (.loc 1) (.cons (.loc 2) (.cons (.loc 4) (.cons .non (.cons .non .nil)))))) (.lst (.cons (.lam 64) .nil)))) (.cons (.ite (.not (.bf .all (.cons (.lc (.cmp .eq (.call 59 (.cons (.loc 8) .nil)) (.lst (.cons (.str (Str.ofString "costs")) (.cons (.str (Str.ofString "costs")) (.cons (.bf .repr (.cons (.loc 4) .nil)) .nil))))) (.name 8) (.ex (.loc 5)) .nil [8]) .nil))) (.cons (.ret (.bl false)) .nil) .nil) (.cons (.asg (.name 4) (.call 58 (.cons (.loc 0) (.cons (.lst (.cons .non (.cons (.neg (.int 1)) (.cons (.int 62) (.cons (.bl true) (.cons (.str (Str.ofString "1")) (.cons (.lst (.cons (.int 1) .nil)) .nil))))))) .nil)))) (.cons (.ite (.not (.bf .all (.cons (.lc (.cmp .eq (.call 59 (.cons (.loc 8) .nil)) (.lst (.cons (.str (Str.ofString "count")) (.cons (.bf .repr (.cons (.loc 4) .nil)) (.cons (.bl true) .nil))))) (.name 8) (.ex (.call 60 (.cons (.loc 1) (.cons (.loc 2) (.cons (.loc 3) (.cons (.loc 4) (.cons .non .nil))))))) .nil [8]) .nil))) (.cons (.ret (.bl false)) .nil) .nil) (.cons (.asg (.name 4) (.call 58 (.cons (.loc 0) (.cons (.lst (.cons .non (.cons (.str (Str.ofString "1")) (.cons (.bl true) (.cons (.tup (.cons (.int 1) .nil)) (.cons (.lst (.cons (.int 1) .nil)) .nil)))))) .nil)))) (.cons (.ite (.not (.bf .all (.cons (.lc (.cmp .eq (.call 59 (.cons (.loc 8) .nil)) (.lst (.cons (.str (Str.ofString "budget")) (.cons (.bf .repr (.cons (.loc 4) .nil)) (.cons (.bl true) .nil))))) (.name 8) (.ex (.sli (.call 60 (.cons (.loc 1) (.cons (.loc 2) (.cons (.loc 3) (.cons (.int 1) (.cons (.loc 4) .nil)))))) (.int 2) .non)) .nil [8]) .nil))) (.cons (.ret (.bl false)) .nil) .nil) (.cons (.asg (.name 6) (.call 53 (.cons (.loc 1) (.cons (.loc 2) (.cons (.loc 3) .nil))))) (.cons (.asg (.name 7) (.bf .repr (.cons (.loc 6) .nil))) (.cons (.expr (.app (.loc 6) .non)) (.cons (.ret (.and (.cmp .eq (.bf .repr (.cons (.call 53 (.cons (.bf .tuple (.cons (.loc 1) .nil)) (.cons (.bf .tuple (.cons (.loc 2) .nil)) (.cons (.loc 3) .nil)))) .nil)) (.loc 7)) (.cmp .eq (.call 59 (.cons (.lam 65) .nil)) (.lst (.cons (.str (Str.ofString "let")) .nil))))) .nil))))))))))))))) }
/-- law -/
def d57 : Dfn := { ps := [29], star := false, dfl := [], sh := [], ns := 1, cells := [], body := (.cons (.ret (.and (.call 61 (.cons (.call 56 (.cons (.loc 0) (.cons (.int 0) .nil))) .nil)) (.call 61 (.cons (.call 56 (.cons (.loc 0) (.cons (.int 1) .nil))) .nil)))) .nil) }
/-- lambda 335 -/
def d58 : Dfn := { ps := [], sh := [], ns := 6, cells := [0, 1, 2, 3], body := (.cons (.ret (.call 52 (.cons (.loc 0) (.cons (.loc 1) (.cons (.loc 2) (.cons (.loc 3) .nil)))))) .nil) }
/-- lambda 336 -/
def d59 : Dfn := { ps := [], sh := [], ns := 6, cells := [0, 1, 2, 3], body := (.cons (.ret (.callk 52 [23, 16, 14, 13] (.cons (.loc 3) (.cons (.loc 2) (.cons (.loc 1) (.cons (.loc 0) .nil)))))) .nil) }
/-- lambda 337 -/
def d60 : Dfn := { ps := [], sh := [], ns := 6, cells := [0, 1, 2, 3, 4], body := (.cons (.ret (.call 54 (.cons (.loc 0) (.cons (.loc 1) (.cons (.loc 2) (.cons (.loc 3) (.cons (.loc 4) .nil))))))) .nil) }
/-- lambda 338 -/
def d61 : Dfn := { ps := [], sh := [], ns := 6, cells := [0, 1, 2, 3, 4], body := (.cons (.ret (.call 55 (.cons (.loc 0) (.cons (.loc 1) (.cons (.loc 2) (.cons (.loc 3) (.cons (.loc 4) (.cons .non .nil)))))))) .nil) }
/-- lambda 339 -/
def d62 : Dfn := { ps := [], sh := [], ns := 6, cells := [0, 1, 2, 3, 4], body := (.cons (.ret (.callk 55 [1, 28, 23, 16, 14, 13] (.cons .non (.cons (.loc 4) (.cons (.loc 3) (.cons (.loc 2) (.cons (.loc 1) (.cons (.loc 0) .nil)))))))) .nil) }
/-- lambda 344 -/
def d63 : Dfn := { ps := [], sh := [], ns := 9, cells := [4], body := (.cons (.ret (.call 53 (.cons (.loc 4) (.cons .non (.cons .non .nil))))) .nil) }
/-- lambda 348 -/
def d64 : Dfn := { ps := [], sh := [], ns := 9, cells := [1, 2, 4], body := (.cons (.ret (.callk 53 [16, 14, 13] (.cons (.loc 4) (.cons (.loc 2) (.cons (.loc 1) .nil))))) .nil) }
/-- lambda 360 -/
def d65 : Dfn := { ps := [], sh := [], ns := 9, cells := [1, 2, 3], body := (.cons (.ret (.call 52 (.cons (.loc 1) (.cons (.loc 2) (.cons (.loc 3) (.cons (.int 61) .nil)))))) .nil) }
/-- InputError -/
def c0 : Py.Cls := { meths := [], cons := [], flds := [], init := none, exc := (some []), mro := [0] }
/-- InvalidText -/
def c1 : Py.Cls := { meths := [], cons := [], flds := [1], init := none, exc := (some [1]), mro := [1, 0] }
/-- InvalidCosts -/
def c2 : Py.Cls := { meths := [], cons := [], flds := [31, 1], init := none, exc := (some [31, 1]), mro := [2, 0] }
/-- InvalidDiff -/
def c3 : Py.Cls := { meths := [], cons := [], flds := [1], init := none, exc := (some [1]), mro := [3, 0] }
/-- InvalidBudget -/
def c4 : Py.Cls := { meths := [], cons := [], flds := [1], init := none, exc := (some [1]), mro := [4, 0] }
/-- InvalidCount -/
def c5 : Py.Cls := { meths := [], cons := [], flds := [1], init := none, exc := (some [1]), mro := [5, 0] }
/-- Costs -/
def c6 : Py.Cls := { meths := [(10, 10), (7, 11), (8, 12), (3, 13), (33, 14)], cons := [(2, (.int 999999))], flds := [4, 5], init := (some 9), exc := none, mro := [6] }
def globs : Tr GV := (.node (some (.fn 0)) (.node (some (.cls 0)) (.node (some (.cls 2)) (.node (some (.val (.int 60))) (.node (some (.fn 8)) (.node (some (.fn 29)) .nil .nil) (.node (some (.fn 42)) .nil .nil)) (.node (some (.fn 21)) (.node (some (.fn 34)) .nil .nil) (.node (some (.fn 50)) .nil .nil))) (.node (some (.fn 4)) (.node (some (.fn 17)) (.node (some (.val (.str (Str.ofString "with")))) .nil .nil) (.node (some (.fn 46)) .nil .nil)) (.node (some (.fn 25)) (.node (some (.fn 38)) .nil .nil) (.node (some (.fn 54)) .nil .nil)))) (.node (some (.cls 4)) (.node (some (.fn 2)) (.node (some (.fn 15)) (.node (some (.fn 31)) .nil .nil) (.node (some (.fn 44)) .nil .nil)) (.node (some (.fn 23)) (.node (some (.fn 36)) .nil .nil) (.node (some (.fn 52)) .nil .nil))) (.node (some (.fn 6)) (.node (some (.fn 19)) (.node (some (.fn 32)) .nil .nil) (.node (some (.fn 48)) .nil .nil)) (.node (some (.fn 27)) (.node (some (.fn 40)) .nil .nil) (.node (some (.fn 56)) .nil .nil))))) (.node (some (.cls 1)) (.node (some (.cls 3)) (.node (some (.fn 1)) (.node (some (.cls 6)) (.node (some (.fn 30)) .nil .nil) (.node (some (.fn 43)) .nil .nil)) (.node (some (.fn 22)) (.node (some (.fn 35)) .nil .nil) (.node (some (.fn 51)) .nil .nil))) (.node (some (.fn 5)) (.node (some (.fn 18)) (.node (some (.val (.str (Str.ofString "dear")))) .nil .nil) (.node (some (.fn 47)) .nil .nil)) (.node (some (.fn 26)) (.node (some (.fn 39)) .nil .nil) (.node (some (.fn 55)) .nil .nil)))) (.node (some (.cls 5)) (.node (some (.fn 3)) (.node (some (.fn 16)) (.node (some (.val (.int 61))) .nil .nil) (.node (some (.fn 45)) .nil .nil)) (.node (some (.fn 24)) (.node (some (.fn 37)) .nil .nil) (.node (some (.fn 53)) .nil .nil))) (.node (some (.fn 7)) (.node (some (.fn 20)) (.node (some (.fn 33)) .nil .nil) (.node (some (.fn 49)) .nil .nil)) (.node (some (.fn 28)) (.node (some (.fn 41)) .nil .nil) (.node (some (.fn 57)) .nil .nil))))))
def dfns : Tr Dfn := (.node (some d0) (.node (some d1) (.node (some d3) (.node (some d7) (.node (some d15) (.node (some d31) (.node (some d63) .nil .nil) .nil) (.node (some d47) .nil .nil)) (.node (some d23) (.node (some d39) .nil .nil) (.node (some d55) .nil .nil))) (.node (some d11) (.node (some d19) (.node (some d35) .nil .nil) (.node (some d51) .nil .nil)) (.node (some d27) (.node (some d43) .nil .nil) (.node (some d59) .nil .nil)))) (.node (some d5) (.node (some d9) (.node (some d17) (.node (some d33) (.node (some d65) .nil .nil) .nil) (.node (some d49) .nil .nil)) (.node (some d25) (.node (some d41) .nil .nil) (.node (some d57) .nil .nil))) (.node (some d13) (.node (some d21) (.node (some d37) .nil .nil) (.node (some d53) .nil .nil)) (.node (some d29) (.node (some d45) .nil .nil) (.node (some d61) .nil .nil))))) (.node (some d2) (.node (some d4) (.node (some d8) (.node (some d16) (.node (some d32) (.node (some d64) .nil .nil) .nil) (.node (some d48) .nil .nil)) (.node (some d24) (.node (some d40) .nil .nil) (.node (some d56) .nil .nil))) (.node (some d12) (.node (some d20) (.node (some d36) .nil .nil) (.node (some d52) .nil .nil)) (.node (some d28) (.node (some d44) .nil .nil) (.node (some d60) .nil .nil)))) (.node (some d6) (.node (some d10) (.node (some d18) (.node (some d34) .nil .nil) (.node (some d50) .nil .nil)) (.node (some d26) (.node (some d42) .nil .nil) (.node (some d58) .nil .nil))) (.node (some d14) (.node (some d22) (.node (some d38) .nil .nil) (.node (some d54) .nil .nil)) (.node (some d30) (.node (some d46) .nil .nil) (.node (some d62) .nil .nil))))))
def clss : Tr Py.Cls := (.node (some c0) (.node (some c1) (.node (some c3) .nil .nil) (.node (some c5) .nil .nil)) (.node (some c2) (.node (some c4) .nil .nil) (.node (some c6) .nil .nil)))
def prog : Prog := ⟨globs, dfns, clss⟩
def gn : List Str := [(Str.ofString "_wall"), (Str.ofString "InputError"), (Str.ofString "InvalidText"), (Str.ofString "InvalidCosts"), (Str.ofString "InvalidDiff"), (Str.ofString "InvalidBudget"), (Str.ofString "InvalidCount"), (Str.ofString "MOST"), (Str.ofString "is_line"), (Str.ofString "is_text"), (Str.ofString "check_text"), (Str.ofString "check_texts"), (Str.ofString "is_cost"), (Str.ofString "are_own"), (Str.ofString "check_costs"), (Str.ofString "own_costs"), (Str.ofString "Costs"), (Str.ofString "is_integer"), (Str.ofString "is_pair"), (Str.ofString "has_form"), (Str.ofString "is_diff"), (Str.ofString "check_diff"), (Str.ofString "blocks_of"), (Str.ofString "kept_lines"), (Str.ofString "gone_lines"), (Str.ofString "come_lines"), (Str.ofString "cost_of"), (Str.ofString "next_places"), (Str.ofString "is_pair_step"), (Str.ofString "step_cost"), (Str.ofString "all_steps"), (Str.ofString "is_number"), (Str.ofString "lesser"), (Str.ofString "raised"), (Str.ofString "MOST_BLOCKS"), (Str.ofString "WITH"), (Str.ofString "DEAR"), (Str.ofString "empty_table"), (Str.ofString "layer_behind"), (Str.ofString "layers_to"), (Str.ofString "top_number"), (Str.ofString "most_blocks"), (Str.ofString "state_ahead"), (Str.ofString "number_at"), (Str.ofString "diff_of_layers"), (Str.ofString "is_row_or_none"), (Str.ofString "is_layer"), (Str.ofString "binds"), (Str.ofString "are_layers"), (Str.ofString "is_dear"), (Str.ofString "check_case"), (Str.ofString "check_budget"), (Str.ofString "least_with_blocks"), (Str.ofString "blocks_front"), (Str.ofString "front_paper"), (Str.ofString "is_front_paper"), (Str.ofString "_law_pot"), (Str.ofString "_law_draw"), (Str.ofString "_law_pick"), (Str.ofString "_law_heard"), (Str.ofString "_law_calls"), (Str.ofString "_law_right"), (Str.ofString "law")]
def an : List Str := [(Str.ofString "k"), (Str.ofString "value"), (Str.ofString "MOST"), (Str.ofString "some"), (Str.ofString "plain_costs"), (Str.ofString "own_costs"), (Str.ofString "self"), (Str.ofString "going"), (Str.ofString "coming"), (Str.ofString "line"), (Str.ofString "costs_of"), (Str.ofString "least"), (Str.ofString "most"), (Str.ofString "old"), (Str.ofString "new"), (Str.ofString "diff"), (Str.ofString "costs"), (Str.ofString "place"), (Str.ofString "one"), (Str.ofString "other"), (Str.ofString "number"), (Str.ofString "more"), (Str.ofString "fewer"), (Str.ofString "many"), (Str.ofString "layer"), (Str.ofString "layers"), (Str.ofString "state"), (Str.ofString "told"), (Str.ofString "budget"), (Str.ofString "script"), (Str.ofString "pot"), (Str.ofString "problem"), (Str.ofString "call"), (Str.ofString "turned_about")]
def cn : List Str := [(Str.ofString "InputError"), (Str.ofString "InvalidText"), (Str.ofString "InvalidCosts"), (Str.ofString "InvalidDiff"), (Str.ofString "InvalidBudget"), (Str.ofString "InvalidCount"), (Str.ofString "Costs")]
def fr : List Str := [(Str.ofString "isinstance"), (Str.ofString "str"), (Str.ofString "list"), (Str.ofString "tuple"), (Str.ofString "len"), (Str.ofString "all"), (Str.ofString "int"), (Str.ofString "bool"), (Str.ofString "dict"), (Str.ofString "range"), (Str.ofString "sum"), (Str.ofString "min"), (Str.ofString "enumerate"), (Str.ofString "abs"), (Str.ofString "max"), (Str.ofString "divmod"), (Str.ofString "repr")]
def dts : List (Nat × DT) := [
  (0, ⟨("_wall", none), "_wall", "_wall", defArgs (top 0), defBody (top 0), defScope (top 0), ["k"], ["k"], [], false⟩),
  (1, ⟨("is_line", none), "is_line", "is_line", defArgs (top 10), defBody (top 10), defScope (top 10), ["value"], ["value"], [], false⟩),
  (2, ⟨("is_text", none), "is_text", "is_text", defArgs (top 11), defBody (top 11), defScope (top 11), ["value", "line"], ["value"], [], false⟩),
  (3, ⟨("check_text", none), "check_text", "check_text", defArgs (top 12), defBody (top 12), defScope (top 12), ["value"], ["value"], [], false⟩),
  (4, ⟨("check_texts", none), "check_texts", "check_texts", defArgs (top 13), defBody (top 13), defScope (top 13), ["values", "value"], ["values"], [], false⟩),
  (5, ⟨("is_cost", none), "is_cost", "is_cost", defArgs (top 15), defBody (top 15), defScope (top 15), ["value"], ["value"], [], false⟩),
  (6, ⟨("are_own", none), "are_own", "are_own", defArgs (top 16), defBody (top 16), defScope (top 16), ["value", "cost"], ["value"], [], false⟩),
  (7, ⟨("check_costs", none), "check_costs", "check_costs", defArgs (top 17), defBody (top 17), defScope (top 17), ["value"], ["value"], [], false⟩),
  (8, ⟨("own_costs", none), "own_costs", "own_costs", defArgs (top 18), defBody (top 18), defScope (top 18), ["some", "line", "own"], ["some"], [], false⟩),
  (9, ⟨("Costs", some "__init__"), "__init__", "Costs.__init__", defArgs (sub 19 1), defBody (sub 19 1), defScope (sub 19 1), ["self", "going", "coming", "some", "line", "own"], ["self", "going", "coming", "some"], [(.int 1), (.int 1), .non], false⟩),
  (10, ⟨("Costs", some "costs_of"), "costs_of", "Costs.costs_of", defArgs (sub 19 3), defBody (sub 19 3), defScope (sub 19 3), ["self", "line"], ["self", "line"], [], false⟩),
  (11, ⟨("Costs", some "going"), "going", "Costs.going", defArgs (sub 19 4), defBody (sub 19 4), defScope (sub 19 4), ["self", "line"], ["self", "line"], [], false⟩),
  (12, ⟨("Costs", some "coming"), "coming", "Costs.coming", defArgs (sub 19 5), defBody (sub 19 5), defScope (sub 19 5), ["self", "line"], ["self", "line"], [], false⟩),
  (13, ⟨("Costs", some "some"), "some", "Costs.some", defArgs (sub 19 6), defBody (sub 19 6), defScope (sub 19 6), ["self"], ["self"], [], false⟩),
  (14, ⟨("Costs", some "turned_about"), "turned_about", "Costs.turned_about", defArgs (sub 19 7), defBody (sub 19 7), defScope (sub 19 7), ["self"], ["self"], [], false⟩),
  (15, ⟨("is_integer", none), "is_integer", "is_integer", defArgs (top 21), defBody (top 21), defScope (top 21), ["value", "least", "most"], ["value", "least", "most"], [], false⟩),
  (16, ⟨("is_pair", none), "is_pair", "is_pair", defArgs (top 22), defBody (top 22), defScope (top 22), ["old", "new", "value"], ["old", "new", "value"], [], false⟩),
  (17, ⟨("has_form", none), "has_form", "has_form", defArgs (top 23), defBody (top 23), defScope (top 23), ["old", "new", "value", "pair", "one", "other"], ["old", "new", "value"], [], false⟩),
  (18, ⟨("is_diff", none), "is_diff", "is_diff", defArgs (top 24), defBody (top 24), defScope (top 24), ["old", "new", "value"], ["old", "new", "value"], [], false⟩),
  (19, ⟨("check_diff", none), "check_diff", "check_diff", defArgs (top 25), defBody (top 25), defScope (top 25), ["old", "new", "value"], ["old", "new", "value"], [], false⟩),
  (20, ⟨("blocks_of", none), "blocks_of", "blocks_of", defArgs (top 26), defBody (top 26), defScope (top 26), ["old", "new", "diff", "found", "a", "c", "i", "j"], ["old", "new", "diff"], [], false⟩),
  (21, ⟨("kept_lines", none), "kept_lines", "kept_lines", defArgs (top 27), defBody (top 27), defScope (top 27), ["old", "new", "diff", "i", "j"], ["old", "new", "diff"], [], false⟩),
  (22, ⟨("gone_lines", none), "gone_lines", "gone_lines", defArgs (top 28), defBody (top 28), defScope (top 28), ["old", "new", "diff", "kept", "i"], ["old", "new", "diff"], [], false⟩),
  (23, ⟨("come_lines", none), "come_lines", "come_lines", defArgs (top 29), defBody (top 29), defScope (top 29), ["old", "new", "diff", "stayed", "i", "j"], ["old", "new", "diff"], [], false⟩),
  (24, ⟨("cost_of", none), "cost_of", "cost_of", defArgs (top 30), defBody (top 30), defScope (top 30), ["old", "new", "diff", "costs", "total", "i", "j"], ["old", "new", "diff", "costs"], [], false⟩),
  (25, ⟨("next_places", none), "next_places", "next_places", defArgs (top 32), defBody (top 32), defScope (top 32), ["old", "new", "place", "i", "j", "found"], ["old", "new", "place"], [], false⟩),
  (26, ⟨("is_pair_step", none), "is_pair_step", "is_pair_step", defArgs (top 33), defBody (top 33), defScope (top 33), ["one", "other"], ["one", "other"], [], false⟩),
  (27, ⟨("step_cost", none), "step_cost", "step_cost", defArgs (top 34), defBody (top 34), defScope (top 34), ["old", "new", "costs", "one", "other"], ["old", "new", "costs", "one", "other"], [], false⟩),
  (28, ⟨("all_steps", none), "all_steps", "all_steps", defArgs (top 35), defBody (top 35), defScope (top 35), ["old", "new", "places", "i", "j", "one", "other"], ["old", "new"], [], false⟩),
  (29, ⟨("is_number", none), "is_number", "is_number", defArgs (top 36), defBody (top 36), defScope (top 36), ["value"], ["value"], [], false⟩),
  (30, ⟨("lesser", none), "lesser", "lesser", defArgs (top 38), defBody (top 38), defScope (top 38), ["one", "other"], ["one", "other"], [], false⟩),
  (31, ⟨("raised", none), "raised", "raised", defArgs (top 39), defBody (top 39), defScope (top 39), ["number", "more"], ["number", "more"], [], false⟩),
  (32, ⟨("empty_table", none), "empty_table", "empty_table", defArgs (top 44), defBody (top 44), defScope (top 44), ["old", "new", "i"], ["old", "new"], [], false⟩),
  (33, ⟨("layer_behind", none), "layer_behind", "layer_behind", defArgs (top 45), defBody (top 45), defScope (top 45), ["old", "new", "costs", "fewer", "shut", "opened", "i", "j", "k", "m", "cost", "begun"], ["old", "new", "costs", "fewer"], [], false⟩),
  (34, ⟨("layers_to", none), "layers_to", "layers_to", defArgs (top 46), defBody (top 46), defScope (top 46), ["old", "new", "costs", "many", "found", "fewer", "count"], ["old", "new", "costs", "many"], [], false⟩),
  (35, ⟨("top_number", none), "top_number", "top_number", defArgs (top 47), defBody (top 47), defScope (top 47), ["layer"], ["layer"], [], false⟩),
  (36, ⟨("most_blocks", none), "most_blocks", "most_blocks", defArgs (top 48), defBody (top 48), defScope (top 48), ["old", "new"], ["old", "new"], [], false⟩),
  (37, ⟨("state_ahead", none), "state_ahead", "state_ahead", defArgs (top 49), defBody (top 49), defScope (top 49), ["old", "new", "costs", "layers", "state", "i", "j", "is_open", "many", "one", "shut", "opened", "cost", "late"], ["old", "new", "costs", "layers", "state"], [], false⟩),
  (38, ⟨("number_at", none), "number_at", "number_at", defArgs (top 50), defBody (top 50), defScope (top 50), ["layers", "state", "i", "j", "is_open", "many"], ["layers", "state"], [], false⟩),
  (39, ⟨("diff_of_layers", none), "diff_of_layers", "diff_of_layers", defArgs (top 51), defBody (top 51), defScope (top 51), ["old", "new", "costs", "layers", "last", "pairs", "many", "is_open", "state", "late"], ["old", "new", "costs", "layers"], [], false⟩),
  (40, ⟨("is_row_or_none", none), "is_row_or_none", "is_row_or_none", defArgs (top 52), defBody (top 52), defScope (top 52), ["value", "many", "number"], ["value", "many"], [], false⟩),
  (41, ⟨("is_layer", none), "is_layer", "is_layer", defArgs (top 53), defBody (top 53), defScope (top 53), ["old", "new", "value", "table", "row"], ["old", "new", "value"], [], false⟩),
  (42, ⟨("binds", none), "binds", "binds", defArgs (top 54), defBody (top 54), defScope (top 54), ["told", "most"], ["told", "most"], [], false⟩),
  (43, ⟨("are_layers", none), "are_layers", "are_layers", defArgs (top 55), defBody (top 55), defScope (top 55), ["old", "new", "costs", "value", "at", "shut", "opened", "one", "other", "near", "far", "told", "most", "fewer"], ["old", "new", "costs", "value"], [], false⟩),
  (44, ⟨("is_dear", none), "is_dear", "is_dear", defArgs (top 56), defBody (top 56), defScope (top 56), ["old", "new", "costs", "many", "budget", "value", "top", "layer"], ["old", "new", "costs", "many", "budget", "value"], [], false⟩),
  (45, ⟨("check_case", none), "check_case", "check_case", defArgs (top 57), defBody (top 57), defScope (top 57), ["old", "new", "costs", "many"], ["old", "new", "costs", "many"], [], false⟩),
  (46, ⟨("check_budget", none), "check_budget", "check_budget", defArgs (top 58), defBody (top 58), defScope (top 58), ["value"], ["value"], [], false⟩),
  (47, ⟨("least_with_blocks", none), "least_with_blocks", "least_with_blocks", defArgs (top 59), defBody (top 59), defScope (top 59), ["old", "new", "costs", "many"], ["old", "new", "costs", "many"], [], false⟩),
  (48, ⟨("blocks_front", none), "blocks_front", "blocks_front", defArgs (top 60), defBody (top 60), defScope (top 60), ["old", "new", "costs", "found", "many", "layer", "top"], ["old", "new", "costs"], [], false⟩),
  (49, ⟨("front_paper", none), "front_paper", "front_paper", defArgs (top 61), defBody (top 61), defScope (top 61), ["old", "new", "costs", "many", "budget", "layers", "top"], ["old", "new", "costs", "many", "budget"], [], false⟩),
  (50, ⟨("is_front_paper", none), "is_front_paper", "is_front_paper", defArgs (top 62), defBody (top 62), defScope (top 62), ["old", "new", "costs", "many", "budget", "value"], ["old", "new", "costs", "many", "budget", "value"], [], false⟩),
  (51, ⟨("_law_pot", none), "_law_pot", "_law_pot", defArgs (top 64), defBody (top 64), defScope (top 64), ["script", "k", "cell"], ["script", "k"], [], false⟩),
  (52, ⟨("_law_draw", none), "_law_draw", "_law_draw", defArgs (top 65), defBody (top 65), defScope (top 65), ["pot", "many", "digit"], ["pot", "many"], [], false⟩),
  (53, ⟨("_law_pick", none), "_law_pick", "_law_pick", defArgs (top 66), defBody (top 66), defScope (top 66), ["pot", "some"], ["pot", "some"], [], false⟩),
  (54, ⟨("_law_heard", none), "_law_heard", "_law_heard", defArgs (top 67), defBody (top 67), defScope (top 67), ["call", "told", "e"], ["call"], [], false⟩),
  (55, ⟨("_law_calls", none), "_law_calls", "_law_calls", defArgs (top 68), defBody (top 68), defScope (top 68), ["old", "new", "costs", "many", "budget", "found"], ["old", "new", "costs", "many", "budget"], [], true⟩),
  (56, ⟨("_law_right", none), "_law_right", "_law_right", defArgs (top 69), defBody (top 69), defScope (top 69), ["pot", "old", "new", "costs", "odd", "calls", "told", "shown", "call"], ["pot"], [], true⟩),
  (57, ⟨("law", none), "law", "law", defArgs (top 70), defBody (top 70), defScope (top 70), ["script"], ["script"], [], false⟩)]
def bs : Bs := ⟨prog, gn, an, fr⟩
def T : Tb := ⟨prog, gn, an, cn, ⟨dts⟩, fun d L => LamOk bs d L, fr⟩
/-! globals: 0 _wall 1 InputError 2 InvalidText 3 InvalidCosts 4 InvalidDiff 5 InvalidBudget 6 InvalidCount 7 MOST 8 is_line 9 is_text 10 check_text 11 check_texts 12 is_cost 13 are_own 14 check_costs 15 own_costs 16 Costs 17 is_integer 18 is_pair 19 has_form 20 is_diff 21 check_diff 22 blocks_of 23 kept_lines 24 gone_lines 25 come_lines 26 cost_of 27 next_places 28 is_pair_step 29 step_cost 30 all_steps 31 is_number 32 lesser 33 raised 34 MOST_BLOCKS 35 WITH 36 DEAR 37 empty_table 38 layer_behind 39 layers_to 40 top_number 41 most_blocks 42 state_ahead 43 number_at 44 diff_of_layers 45 is_row_or_none 46 is_layer 47 binds 48 are_layers 49 is_dear 50 check_case 51 check_budget 52 least_with_blocks 53 blocks_front 54 front_paper 55 is_front_paper 56 _law_pot 57 _law_draw 58 _law_pick 59 _law_heard 60 _law_calls 61 _law_right 62 law -/
/-! defs: 0 _wall 1 is_line 2 is_text 3 check_text 4 check_texts 5 is_cost 6 are_own 7 check_costs 8 own_costs 9 Costs.__init__ 10 Costs.costs_of 11 Costs.going 12 Costs.coming 13 Costs.some 14 Costs.turned_about 15 is_integer 16 is_pair 17 has_form 18 is_diff 19 check_diff 20 blocks_of 21 kept_lines 22 gone_lines 23 come_lines 24 cost_of 25 next_places 26 is_pair_step 27 step_cost 28 all_steps 29 is_number 30 lesser 31 raised 32 empty_table 33 layer_behind 34 layers_to 35 top_number 36 most_blocks 37 state_ahead 38 number_at 39 diff_of_layers 40 is_row_or_none 41 is_layer 42 binds 43 are_layers 44 is_dear 45 check_case 46 check_budget 47 least_with_blocks 48 blocks_front 49 front_paper 50 is_front_paper 51 _law_pot 52 _law_draw 53 _law_pick 54 _law_heard 55 _law_calls 56 _law_right 57 law 58 lambda 335 59 lambda 336 60 lambda 337 61 lambda 338 62 lambda 339 63 lambda 344 64 lambda 348 65 lambda 360 -/
/-! slots of _law_pot: 0 script 1 k 2 cell -/
/-! slots of _law_draw: 0 pot 1 many 2 digit -/
/-! slots of _law_pick: 0 pot 1 some -/
/-! slots of _law_right: 0 pot 1 old 2 new 3 costs 4 odd 5 calls 6 told 7 shown 8 call -/
/-! slots of law: 0 script -/
end K90

set_option Elab.async false
set_option linter.all false
set_option maxRecDepth 100000
set_option maxHeartbeats 0
noncomputable section
namespace K90
open Py PySem PySem.Spec PyProof.Rows L2
noncomputable def z0 : ZDfn := ⟨1, [], (.cons .unk .nil), none⟩
noncomputable def z1 : ZDfn := ⟨1, [], (.cons (.ret (.and (.isi (.loc 0) [.bt .str]) (.cmp .nin (.str (Str.ofString "\n")) (.loc 0)))) .nil), (some (.and (.isi (.loc 0) [.bt .str]) (.cmp .nin (.str (Str.ofString "\n")) (.loc 0))))⟩
noncomputable def z2 : ZDfn := ⟨2, [], (.cons (.ret (.and (.isi (.loc 0) [.bt .lst, .bt .tup]) (.and (.cmp .le (.bf .len (.cons (.loc 0) .nil)) (.glo 7)) (.bf .all (.cons (.lc (.call 8 (.cons (.loc 1) .nil)) (.name 1) (.ex (.loc 0)) .nil [1]) .nil))))) .nil), (some (.and (.isi (.loc 0) [.bt .lst, .bt .tup]) (.and (.cmp .le (.bf .len (.cons (.loc 0) .nil)) (.glo 7)) (.bf .all (.cons (.lc (.call 8 (.cons (.loc 1) .nil)) (.name 1) (.ex (.loc 0)) .nil [1]) .nil)))))⟩
noncomputable def z3 : ZDfn := ⟨1, [], (.cons (.ite (.not (.call 9 (.cons (.loc 0) .nil))) (.cons (.raise 2 (.cons (.loc 0) .nil)) .nil) .nil) .nil), none⟩
noncomputable def z4 : ZDfn := ⟨2, [], (.cons (.for_ (.name 1) (.ex (.loc 0)) (.cons (.expr (.call 10 (.cons (.loc 1) .nil))) .nil)) .nil), none⟩
noncomputable def z5 : ZDfn := ⟨1, [], (.cons (.ret (.and (.isi (.loc 0) [.bt .int]) (.and (.not (.isi (.loc 0) [.bt .bl])) (.chain .le .le (.int 1) (.loc 0) (.ccon 16 2))))) .nil), (some (.and (.isi (.loc 0) [.bt .int]) (.and (.not (.isi (.loc 0) [.bt .bl])) (.chain .le .le (.int 1) (.loc 0) (.ccon 16 2)))))⟩
noncomputable def z6 : ZDfn := ⟨2, [], (.cons (.ret (.and (.isi (.loc 0) [.bt .tup]) (.and (.cmp .eq (.bf .len (.cons (.loc 0) .nil)) (.int 2)) (.bf .all (.cons (.lc (.call 12 (.cons (.loc 1) .nil)) (.name 1) (.ex (.loc 0)) .nil [1]) .nil))))) .nil), (some (.and (.isi (.loc 0) [.bt .tup]) (.and (.cmp .eq (.bf .len (.cons (.loc 0) .nil)) (.int 2)) (.bf .all (.cons (.lc (.call 12 (.cons (.loc 1) .nil)) (.name 1) (.ex (.loc 0)) .nil [1]) .nil)))))⟩
noncomputable def z7 : ZDfn := ⟨1, [], (.cons (.ite (.not (.isi (.loc 0) [.own 6])) (.cons (.raise 3 (.cons (.str (Str.ofString "costs")) (.cons (.loc 0) .nil))) .nil) .nil) .nil), none⟩
noncomputable def z8 : ZDfn := ⟨3, [], (.cons (.ite (.cmp .is (.loc 0) .non) (.cons (.ret (.dic .nil)) .nil) .nil) (.cons (.ite (.not (.isi (.loc 0) [.bt .dct])) (.cons (.raise 3 (.cons (.str (Str.ofString "some")) (.cons (.loc 0) .nil))) .nil) .nil) (.cons (.for_ (.tup (.cons (.name 1) (.cons (.name 2) .nil))) (.ex .unk) (.cons (.ite (.not (.call 8 (.cons (.loc 1) .nil))) (.cons (.raise 3 (.cons (.str (Str.ofString "line")) (.cons (.loc 1) .nil))) .nil) .nil) (.cons (.ite (.not (.call 13 (.cons (.loc 2) .nil))) (.cons (.raise 3 (.cons (.str (Str.ofString "own")) (.cons (.loc 2) .nil))) .nil) .nil) .nil))) (.cons (.ret .unk) .nil)))), none⟩
noncomputable def z9 : ZDfn := ⟨6, [], (.cons (.ite (.not (.call 12 (.cons (.loc 1) .nil))) (.cons (.raise 3 (.cons (.str (Str.ofString "going")) (.cons (.loc 1) .nil))) .nil) .nil) (.cons (.ite (.not (.call 12 (.cons (.loc 2) .nil))) (.cons (.raise 3 (.cons (.str (Str.ofString "coming")) (.cons (.loc 2) .nil))) .nil) .nil) (.cons (.asg (.fld (.loc 0) 4) (.tup (.cons (.loc 1) (.cons (.loc 2) .nil)))) (.cons (.asg (.fld (.loc 0) 5) (.dc0 (.call 15 (.cons (.loc 3) .nil)))) .nil)))), none⟩
noncomputable def z10 : ZDfn := ⟨2, [], (.cons (.ite (.not (.call 8 (.cons (.loc 1) .nil))) (.cons (.raise 3 (.cons (.str (Str.ofString "line")) (.cons (.loc 1) .nil))) .nil) .nil) (.cons (.ret (.dget (.fld (.loc 0) 5) (.loc 1) (.fld (.loc 0) 4))) .nil)), none⟩
noncomputable def z11 : ZDfn := ⟨2, [], (.cons (.ret (.sub (.meth (.loc 0) 10 (.cons (.loc 1) .nil)) (.int 0))) .nil), (some (.sub (.meth (.loc 0) 10 (.cons (.loc 1) .nil)) (.int 0)))⟩
noncomputable def z12 : ZDfn := ⟨2, [], (.cons (.ret (.sub (.meth (.loc 0) 10 (.cons (.loc 1) .nil)) (.int 1))) .nil), (some (.sub (.meth (.loc 0) 10 (.cons (.loc 1) .nil)) (.int 1)))⟩
noncomputable def z13 : ZDfn := ⟨1, [], (.cons (.ret .unk) .nil), (some .unk)⟩
noncomputable def z14 : ZDfn := ⟨1, [], (.cons (.expr (.call 0 (.cons (.int 1) .nil))) .nil), none⟩
noncomputable def z15 : ZDfn := ⟨3, [], (.cons (.ret (.and (.isi (.loc 0) [.bt .int]) (.and (.not (.isi (.loc 0) [.bt .bl])) (.chain .le .le (.loc 1) (.loc 0) (.loc 2))))) .nil), (some (.and (.isi (.loc 0) [.bt .int]) (.and (.not (.isi (.loc 0) [.bt .bl])) (.chain .le .le (.loc 1) (.loc 0) (.loc 2)))))⟩
noncomputable def z16 : ZDfn := ⟨3, [], (.cons (.ite (.or (.not (.isi (.loc 2) [.bt .tup])) (.cmp .ne (.bf .len (.cons (.loc 2) .nil)) (.int 2))) (.cons (.ret (.bl false)) .nil) .nil) (.cons (.ite (.or (.not (.call 17 (.cons (.sub (.loc 2) (.int 0)) (.cons (.int 1) (.cons (.bf .len (.cons (.loc 0) .nil)) .nil))))) (.not (.call 17 (.cons (.sub (.loc 2) (.int 1)) (.cons (.int 1) (.cons (.bf .len (.cons (.loc 1) .nil)) .nil)))))) (.cons (.ret (.bl false)) .nil) .nil) (.cons (.ret (.cmp .eq (.sub (.loc 0) (.bin .sub (.sub (.loc 2) (.int 0)) (.int 1))) (.sub (.loc 1) (.bin .sub (.sub (.loc 2) (.int 1)) (.int 1))))) .nil))), none⟩
noncomputable def z17 : ZDfn := ⟨6, [], (.cons (.ite (.or (.not (.isi (.loc 2) [.bt .tup])) (.not (.bf .all (.cons (.lc (.call 18 (.cons (.loc 0) (.cons (.loc 1) (.cons (.loc 3) .nil)))) (.name 3) (.ex (.loc 2)) .nil [3]) .nil)))) (.cons (.ret (.bl false)) .nil) .nil) (.cons (.ret (.bf .all (.cons (.lc (.and (.cmp .lt (.sub (.loc 4) (.int 0)) (.sub (.loc 5) (.int 0))) (.cmp .lt (.sub (.loc 4) (.int 1)) (.sub (.loc 5) (.int 1)))) (.tup (.cons (.name 4) (.cons (.name 5) .nil))) (.ex .unk) .nil [4, 5]) .nil))) .nil)), none⟩
noncomputable def z18 : ZDfn := ⟨3, [], (.cons (.expr (.call 11 (.cons (.loc 0) (.cons (.loc 1) .nil)))) (.cons (.ret (.call 19 (.cons (.loc 0) (.cons (.loc 1) (.cons (.loc 2) .nil))))) .nil)), none⟩
noncomputable def z19 : ZDfn := ⟨3, [], (.cons (.ite (.not (.call 20 (.cons (.loc 0) (.cons (.loc 1) (.cons (.loc 2) .nil))))) (.cons (.raise 4 (.cons (.loc 2) .nil)) .nil) .nil) .nil), none⟩
noncomputable def z20 : ZDfn := ⟨8, [], (.cons (.expr (.call 21 (.cons (.loc 0) (.cons (.loc 1) (.cons (.loc 2) .nil))))) (.cons (.asg (.name 3) (.lst .nil)) (.cons (.asg (.tup (.cons (.name 4) (.cons (.name 5) .nil))) (.tup (.cons (.int 0) (.cons (.int 0) .nil)))) (.cons (.for_ (.tup (.cons (.name 6) (.cons (.name 7) .nil))) (.ex (.bin .add (.loc 2) (.tup (.cons (.tup (.cons (.bin .add (.bf .len (.cons (.loc 0) .nil)) (.int 1)) (.cons (.bin .add (.bf .len (.cons (.loc 1) .nil)) (.int 1)) .nil))) .nil)))) (.cons (.ite (.cmp .ne (.tup (.cons (.loc 4) (.cons (.loc 5) .nil))) (.tup (.cons (.bin .sub (.loc 6) (.int 1)) (.cons (.bin .sub (.loc 7) (.int 1)) .nil)))) (.cons (.expr (.app (.loc 3) (.tup (.cons (.loc 4) (.cons (.bin .sub (.loc 6) (.int 1)) (.cons (.loc 5) (.cons (.bin .sub (.loc 7) (.int 1)) .nil))))))) .nil) .nil) (.cons (.asg (.tup (.cons (.name 4) (.cons (.name 5) .nil))) (.tup (.cons (.loc 6) (.cons (.loc 7) .nil)))) .nil))) (.cons (.ret (.loc 3)) .nil))))), none⟩
noncomputable def z21 : ZDfn := ⟨5, [], (.cons (.expr (.call 21 (.cons (.loc 0) (.cons (.loc 1) (.cons (.loc 2) .nil))))) (.cons (.ret (.lc (.loc 3) (.tup (.cons (.name 3) (.cons (.name 4) .nil))) (.ex (.loc 2)) .nil [3, 4])) .nil)), none⟩
noncomputable def z22 : ZDfn := ⟨5, [], (.cons (.asg (.name 3) (.call 23 (.cons (.loc 0) (.cons (.loc 1) (.cons (.loc 2) .nil))))) (.cons (.ret (.lc (.loc 4) (.name 4) (.rng2 (.int 1) (.bin .add (.bf .len (.cons (.loc 0) .nil)) (.int 1))) (.cons (.cmp .nin (.loc 4) (.loc 3)) .nil) [4])) .nil)), none⟩
noncomputable def z23 : ZDfn := ⟨6, [], (.cons (.expr (.call 21 (.cons (.loc 0) (.cons (.loc 1) (.cons (.loc 2) .nil))))) (.cons .unk (.cons (.ret (.lc (.loc 5) (.name 5) (.rng2 (.int 1) (.bin .add (.bf .len (.cons (.loc 1) .nil)) (.int 1))) (.cons (.cmp .nin (.loc 5) (.loc 3)) .nil) [5])) .nil))), none⟩
noncomputable def z24 : ZDfn := ⟨7, [], (.cons (.expr (.call 21 (.cons (.loc 0) (.cons (.loc 1) (.cons (.loc 2) .nil))))) (.cons (.expr (.call 14 (.cons (.loc 3) .nil))) (.cons (.asg (.name 4) (.bf .sum (.cons (.lc (.meth (.loc 3) 7 (.cons (.sub (.loc 0) (.bin .sub (.loc 5) (.int 1))) .nil)) (.name 5) (.ex (.call 24 (.cons (.loc 0) (.cons (.loc 1) (.cons (.loc 2) .nil))))) .nil [5]) .nil))) (.cons (.ret (.bin .add (.loc 4) (.bf .sum (.cons (.lc (.meth (.loc 3) 8 (.cons (.sub (.loc 1) (.bin .sub (.loc 6) (.int 1))) .nil)) (.name 6) (.ex (.call 25 (.cons (.loc 0) (.cons (.loc 1) (.cons (.loc 2) .nil))))) .nil [6]) .nil)))) .nil)))), none⟩
noncomputable def z25 : ZDfn := ⟨6, [], (.cons (.asg (.tup (.cons (.name 3) (.cons (.name 4) .nil))) (.loc 2)) (.cons (.asg (.name 5) (.lst .nil)) (.cons (.ite (.cmp .lt (.loc 3) (.bf .len (.cons (.loc 0) .nil))) (.cons (.expr (.app (.loc 5) (.tup (.cons (.bin .add (.loc 3) (.int 1)) (.cons (.loc 4) .nil))))) .nil) .nil) (.cons (.ite (.and (.cmp .lt (.loc 3) (.bf .len (.cons (.loc 0) .nil))) (.and (.cmp .lt (.loc 4) (.bf .len (.cons (.loc 1) .nil))) (.cmp .eq (.sub (.loc 0) (.loc 3)) (.sub (.loc 1) (.loc 4))))) (.cons (.expr (.app (.loc 5) (.tup (.cons (.bin .add (.loc 3) (.int 1)) (.cons (.bin .add (.loc 4) (.int 1)) .nil))))) .nil) .nil) (.cons (.ite (.cmp .lt (.loc 4) (.bf .len (.cons (.loc 1) .nil))) (.cons (.expr (.app (.loc 5) (.tup (.cons (.loc 3) (.cons (.bin .add (.loc 4) (.int 1)) .nil))))) .nil) .nil) (.cons (.ret (.loc 5)) .nil)))))), none⟩
noncomputable def z26 : ZDfn := ⟨2, [], (.cons (.ret (.and (.cmp .lt (.sub (.loc 0) (.int 0)) (.sub (.loc 1) (.int 0))) (.cmp .lt (.sub (.loc 0) (.int 1)) (.sub (.loc 1) (.int 1))))) .nil), (some (.and (.cmp .lt (.sub (.loc 0) (.int 0)) (.sub (.loc 1) (.int 0))) (.cmp .lt (.sub (.loc 0) (.int 1)) (.sub (.loc 1) (.int 1)))))⟩
noncomputable def z27 : ZDfn := ⟨5, [], (.cons (.ite (.call 28 (.cons (.loc 3) (.cons (.loc 4) .nil))) (.cons (.ret (.int 0)) .nil) .nil) (.cons (.ret (.ite (.cmp .lt (.sub (.loc 3) (.int 0)) (.sub (.loc 4) (.int 0))) (.meth (.loc 2) 7 (.cons (.sub (.loc 0) (.sub (.loc 3) (.int 0))) .nil)) (.meth (.loc 2) 8 (.cons (.sub (.loc 1) (.sub (.loc 3) (.int 1))) .nil)))) .nil)), none⟩
noncomputable def z28 : ZDfn := ⟨7, [], (.cons .unk (.cons (.ret .unk) .nil)), none⟩
noncomputable def z29 : ZDfn := ⟨1, [], (.cons (.ret (.and (.isi (.loc 0) [.bt .int]) (.not (.isi (.loc 0) [.bt .bl])))) .nil), (some (.and (.isi (.loc 0) [.bt .int]) (.not (.isi (.loc 0) [.bt .bl]))))⟩
noncomputable def z30 : ZDfn := ⟨2, [], (.cons (.ite (.or (.cmp .is (.loc 0) .non) (.cmp .is (.loc 1) .non)) (.cons (.ret (.ite (.cmp .is (.loc 0) .non) (.loc 1) (.loc 0))) .nil) .nil) (.cons (.ret (.bf .min (.cons (.loc 0) (.cons (.loc 1) .nil)))) .nil)), none⟩
noncomputable def z31 : ZDfn := ⟨2, [], (.cons (.ret (.ite (.cmp .is (.loc 0) .non) .non (.bin .add (.loc 0) (.loc 1)))) .nil), (some (.ite (.cmp .is (.loc 0) .non) .non (.bin .add (.loc 0) (.loc 1))))⟩
noncomputable def z32 : ZDfn := ⟨3, [], (.cons (.ret (.lc (.bin .mul (.lst (.cons .non .nil)) (.bin .add (.bf .len (.cons (.loc 1) .nil)) (.int 1))) (.name 2) (.rng1 (.bin .add (.bf .len (.cons (.loc 0) .nil)) (.int 1))) .nil [2])) .nil), (some (.lc (.bin .mul (.lst (.cons .non .nil)) (.bin .add (.bf .len (.cons (.loc 1) .nil)) (.int 1))) (.name 2) (.rng1 (.bin .add (.bf .len (.cons (.loc 0) .nil)) (.int 1))) .nil [2]))⟩
noncomputable def z33 : ZDfn := ⟨12, [], (.cons (.asg (.tup (.cons (.name 4) (.cons (.name 5) .nil))) (.tup (.cons (.call 37 (.cons (.loc 0) (.cons (.loc 1) .nil))) (.cons (.call 37 (.cons (.loc 0) (.cons (.loc 1) .nil))) .nil)))) (.cons (.asg (.sub (.sub (.loc 4) (.int 0)) (.int 0)) (.int 0)) (.cons (.for_ (.name 6) (.rng1 (.bin .add (.bf .len (.cons (.loc 0) .nil)) (.int 1))) (.cons (.for_ (.name 7) (.rng1 (.bin .add (.bf .len (.cons (.loc 1) .nil)) (.int 1))) (.cons (.for_ (.tup (.cons (.name 8) (.cons (.name 9) .nil))) (.ex (.call 27 (.cons (.loc 0) (.cons (.loc 1) (.cons (.tup (.cons (.loc 6) (.cons (.loc 7) .nil))) .nil))))) (.cons (.ite (.call 28 (.cons (.tup (.cons (.loc 6) (.cons (.loc 7) .nil))) (.cons (.tup (.cons (.loc 8) (.cons (.loc 9) .nil))) .nil))) (.cons (.asg (.sub (.sub (.loc 4) (.loc 8)) (.loc 9)) (.call 32 (.cons (.sub (.sub (.loc 4) (.loc 8)) (.loc 9)) (.cons (.call 32 (.cons (.sub (.sub (.loc 4) (.loc 6)) (.loc 7)) (.cons (.sub (.sub (.loc 5) (.loc 6)) (.loc 7)) .nil))) .nil)))) .nil) (.cons (.asg (.name 10) (.call 29 (.cons (.loc 0) (.cons (.loc 1) (.cons (.loc 2) (.cons (.tup (.cons (.loc 6) (.cons (.loc 7) .nil))) (.cons (.tup (.cons (.loc 8) (.cons (.loc 9) .nil))) .nil))))))) (.cons (.asg (.name 11) (.ite (.cmp .is (.loc 3) .non) .non (.call 33 (.cons (.sub (.sub (.sub (.loc 3) (.int 0)) (.loc 6)) (.loc 7)) (.cons (.loc 10) .nil))))) (.cons (.asg (.sub (.sub (.loc 5) (.loc 8)) (.loc 9)) (.call 32 (.cons (.sub (.sub (.loc 5) (.loc 8)) (.loc 9)) (.cons (.call 32 (.cons (.loc 11) (.cons (.call 33 (.cons (.sub (.sub (.loc 5) (.loc 6)) (.loc 7)) (.cons (.loc 10) .nil))) .nil))) .nil)))) .nil)))) .nil)) .nil)) .nil)) (.cons (.ret (.tup (.cons (.loc 4) (.cons (.loc 5) .nil)))) .nil)))), none⟩
noncomputable def z34 : ZDfn := ⟨7, [], (.cons (.asg (.tup (.cons (.name 4) (.cons (.name 5) .nil))) (.tup (.cons (.lst .nil) (.cons .non .nil)))) (.cons (.for_ (.name 6) (.rng1 (.bin .add (.loc 3) (.int 1))) (.cons (.asg (.name 5) (.call 38 (.cons (.loc 0) (.cons (.loc 1) (.cons (.loc 2) (.cons (.loc 5) .nil)))))) (.cons (.expr (.app (.loc 4) (.loc 5))) .nil))) (.cons (.ret (.loc 4)) .nil))), none⟩
noncomputable def z35 : ZDfn := ⟨1, [], (.cons (.ret (.call 32 (.cons (.sub (.sub (.sub (.loc 0) (.int 0)) (.neg (.int 1))) (.neg (.int 1))) (.cons (.sub (.sub (.sub (.loc 0) (.int 1)) (.neg (.int 1))) (.neg (.int 1))) .nil)))) .nil), (some (.call 32 (.cons (.sub (.sub (.sub (.loc 0) (.int 0)) (.neg (.int 1))) (.neg (.int 1))) (.cons (.sub (.sub (.sub (.loc 0) (.int 1)) (.neg (.int 1))) (.neg (.int 1))) .nil))))⟩
noncomputable def z36 : ZDfn := ⟨2, [], (.cons (.ret (.bf .min (.cons (.glo 34) (.cons (.bin .add (.bf .len (.cons (.loc 0) .nil)) (.bf .len (.cons (.loc 1) .nil))) .nil)))) .nil), (some (.bf .min (.cons (.glo 34) (.cons (.bin .add (.bf .len (.cons (.loc 0) .nil)) (.bf .len (.cons (.loc 1) .nil))) .nil))))⟩
noncomputable def z37 : ZDfn := ⟨14, [], (.cons (.asg (.tup (.cons (.tup (.cons (.name 5) (.cons (.name 6) .nil))) (.cons (.name 7) (.cons (.name 8) .nil)))) (.loc 4)) (.cons (.ite (.not (.loc 7)) (.cons (.asg (.name 9) (.tup (.cons (.bin .sub (.loc 5) (.int 1)) (.cons (.bin .sub (.loc 6) (.int 1)) .nil)))) (.cons (.asg (.tup (.cons (.name 10) (.cons (.name 11) .nil))) (.tup (.cons (.sub (.sub (.sub (.sub (.loc 3) (.loc 8)) (.int 0)) (.bin .sub (.loc 5) (.int 1))) (.bin .sub (.loc 6) (.int 1))) (.cons (.sub (.sub (.sub (.sub (.loc 3) (.loc 8)) (.int 1)) (.bin .sub (.loc 5) (.int 1))) (.bin .sub (.loc 6) (.int 1))) .nil)))) (.cons (.ret (.tup (.cons (.loc 9) (.cons (.ite (.and (.cmp .isn (.loc 10) .non) (.or (.cmp .is (.loc 11) .non) (.cmp .le (.loc 10) (.loc 11)))) (.int 0) (.int 1)) (.cons (.loc 8) .nil))))) .nil))) .nil) (.cons (.for_ (.name 9) (.ex (.tup (.cons (.tup (.cons (.bin .sub (.loc 5) (.int 1)) (.cons (.loc 6) .nil))) (.cons (.tup (.cons (.loc 5) (.cons (.bin .sub (.loc 6) (.int 1)) .nil))) .nil)))) (.cons (.ite (.cmp .ge (.bf .min (.cons (.loc 9) .nil)) (.int 0)) (.cons (.asg (.name 12) (.call 29 (.cons (.loc 0) (.cons (.loc 1) (.cons (.loc 2) (.cons (.loc 9) (.cons (.tup (.cons (.loc 5) (.cons (.loc 6) .nil))) .nil))))))) (.cons (.for_ (.name 13) (.ex (.tup (.cons (.tup (.cons (.loc 9) (.cons (.int 1) (.cons (.loc 8) .nil)))) (.cons (.tup (.cons (.loc 9) (.cons (.int 0) (.cons (.bin .sub (.loc 8) (.int 1)) .nil)))) .nil)))) (.cons (.ite (.and (.cmp .ge (.sub (.loc 13) (.int 2)) (.int 0)) (.cmp .eq (.call 33 (.cons (.call 43 (.cons (.loc 3) (.cons (.loc 13) .nil))) (.cons (.loc 12) .nil))) (.call 43 (.cons (.loc 3) (.cons (.loc 4) .nil))))) (.cons (.ret (.loc 13)) .nil) .nil) .nil)) .nil)) .nil) .nil)) (.cons (.ret .non) .nil)))), none⟩
noncomputable def z38 : ZDfn := ⟨6, [], (.cons (.asg (.tup (.cons (.tup (.cons (.name 2) (.cons (.name 3) .nil))) (.cons (.name 4) (.cons (.name 5) .nil)))) (.loc 1)) (.cons (.ret (.sub (.sub (.sub (.sub (.loc 0) (.loc 5)) (.loc 4)) (.loc 2)) (.loc 3))) .nil)), none⟩
noncomputable def z39 : ZDfn := ⟨10, [], (.cons .unk (.cons (.asg (.name 7) (.ite (.cmp .eq (.sub (.sub (.sub (.sub (.loc 3) (.loc 6)) (.int 0)) (.neg (.int 1))) (.neg (.int 1))) (.call 40 (.cons (.sub (.loc 3) (.loc 6)) .nil))) (.int 0) (.int 1))) (.cons (.asg (.name 8) (.tup (.cons (.loc 4) (.cons (.loc 7) (.cons (.loc 6) .nil))))) (.cons .unk (.cons (.ret (.bf .tuple (.cons .unk .nil))) .nil))))), none⟩
noncomputable def z40 : ZDfn := ⟨3, [], (.cons (.ite (.or (.not (.isi (.loc 0) [.bt .lst, .bt .tup])) (.cmp .ne (.bf .len (.cons (.loc 0) .nil)) (.loc 1))) (.cons (.ret (.bl false)) .nil) .nil) (.cons (.ret (.bf .all (.cons (.lc (.or (.cmp .is (.loc 2) .non) (.call 31 (.cons (.loc 2) .nil))) (.name 2) (.ex (.loc 0)) .nil [2]) .nil))) .nil)), none⟩
noncomputable def z41 : ZDfn := ⟨5, [], (.cons (.ite (.or (.not (.isi (.loc 2) [.bt .tup])) (.cmp .ne (.bf .len (.cons (.loc 2) .nil)) (.int 2))) (.cons (.ret (.bl false)) .nil) .nil) (.cons (.for_ (.name 3) (.ex (.loc 2)) (.cons (.ite (.or (.not (.isi (.loc 3) [.bt .lst, .bt .tup])) (.cmp .ne (.bf .len (.cons (.loc 3) .nil)) (.bin .add (.bf .len (.cons (.loc 0) .nil)) (.int 1)))) (.cons (.ret (.bl false)) .nil) .nil) (.cons (.ite (.not (.bf .all (.cons (.lc (.call 45 (.cons (.loc 4) (.cons (.bin .add (.bf .len (.cons (.loc 1) .nil)) (.int 1)) .nil))) (.name 4) (.ex (.loc 3)) .nil [4]) .nil))) (.cons (.ret (.bl false)) .nil) .nil) .nil))) (.cons (.ret (.cmp .eq (.sub (.sub (.sub (.loc 2) (.int 0)) (.int 0)) (.int 0)) (.int 0))) .nil))), none⟩
noncomputable def z42 : ZDfn := ⟨2, [], (.cons (.ret (.or (.cmp .is (.loc 1) .non) (.and (.cmp .isn (.loc 0) .non) (.cmp .le (.loc 0) (.loc 1))))) .nil), (some (.or (.cmp .is (.loc 1) .non) (.and (.cmp .isn (.loc 0) .non) (.cmp .le (.loc 0) (.loc 1)))))⟩
noncomputable def z43 : ZDfn := ⟨14, [], (.cons (.for_ (.tup (.cons (.name 4) (.cons (.tup (.cons (.name 5) (.cons (.name 6) .nil))) .nil))) (.enm (.loc 3)) (.cons (.for_ (.tup (.cons (.name 7) (.cons (.name 8) .nil))) (.ex (.call 30 (.cons (.loc 0) (.cons (.loc 1) .nil)))) (.cons (.asg (.tup (.cons (.name 9) (.cons (.name 10) .nil))) (.tup (.cons (.sub (.sub (.loc 5) (.sub (.loc 7) (.int 0))) (.sub (.loc 7) (.int 1))) (.cons (.sub (.sub (.loc 6) (.sub (.loc 7) (.int 0))) (.sub (.loc 7) (.int 1))) .nil)))) (.cons (.ite (.call 28 (.cons (.loc 7) (.cons (.loc 8) .nil))) (.cons (.asg (.tup (.cons (.name 11) (.cons (.name 12) .nil))) (.tup (.cons (.sub (.sub (.loc 5) (.sub (.loc 8) (.int 0))) (.sub (.loc 8) (.int 1))) (.cons (.call 32 (.cons (.loc 9) (.cons (.loc 10) .nil))) .nil)))) .nil) (.cons (.asg (.name 13) (.ite (.cmp .gt (.loc 4) (.int 0)) (.sub (.sub (.sub (.sub (.loc 3) (.bin .sub (.loc 4) (.int 1))) (.int 0)) (.sub (.loc 7) (.int 0))) (.sub (.loc 7) (.int 1))) .non)) (.cons (.asg (.name 12) (.call 33 (.cons (.call 32 (.cons (.loc 13) (.cons (.loc 10) .nil))) (.cons (.call 29 (.cons (.loc 0) (.cons (.loc 1) (.cons (.loc 2) (.cons (.loc 7) (.cons (.loc 8) .nil)))))) .nil)))) (.cons (.asg (.name 11) (.sub (.sub (.loc 6) (.sub (.loc 8) (.int 0))) (.sub (.loc 8) (.int 1)))) .nil)))) (.cons (.ite (.not (.call 47 (.cons (.loc 11) (.cons (.loc 12) .nil)))) (.cons (.ret (.bl false)) .nil) .nil) .nil)))) .nil)) (.cons (.ret (.bl true)) .nil)), none⟩
noncomputable def z44 : ZDfn := ⟨8, [], (.cons (.ite (.or (.not (.isi (.loc 5) [.bt .tup])) (.cmp .ne (.bf .len (.cons (.loc 5) .nil)) (.bin .add (.loc 3) (.int 1)))) (.cons (.ret (.bl false)) .nil) .nil) (.cons (.ite (.not (.bf .all (.cons (.lc (.call 46 (.cons (.loc 0) (.cons (.loc 1) (.cons (.loc 7) .nil)))) (.name 7) (.ex (.loc 5)) .nil [7]) .nil))) (.cons (.ret (.bl false)) .nil) .nil) (.cons (.asg (.name 6) (.call 40 (.cons (.sub (.loc 5) (.neg (.int 1))) .nil))) (.cons (.ret (.and (.call 48 (.cons (.loc 0) (.cons (.loc 1) (.cons (.loc 2) (.cons (.loc 5) .nil))))) (.or (.cmp .is (.loc 6) .non) (.cmp .gt (.loc 6) (.loc 4))))) .nil)))), none⟩
noncomputable def z45 : ZDfn := ⟨4, [], (.cons (.expr (.call 11 (.cons (.loc 0) (.cons (.loc 1) .nil)))) (.cons (.expr (.call 14 (.cons (.loc 2) .nil))) (.cons (.ite (.not (.call 17 (.cons (.loc 3) (.cons (.int 0) (.cons (.glo 34) .nil))))) (.cons (.raise 6 (.cons (.loc 3) .nil)) .nil) .nil) .nil))), none⟩
noncomputable def z46 : ZDfn := ⟨1, [], (.cons (.ite (.not (.call 31 (.cons (.loc 0) .nil))) (.cons (.raise 5 (.cons (.loc 0) .nil)) .nil) .nil) .nil), none⟩
noncomputable def z47 : ZDfn := ⟨4, [], (.cons (.expr (.call 50 (.cons (.loc 0) (.cons (.loc 1) (.cons (.loc 2) (.cons (.loc 3) .nil)))))) (.cons (.ret (.call 40 (.cons (.sub (.call 39 (.cons (.loc 0) (.cons (.loc 1) (.cons (.loc 2) (.cons (.loc 3) .nil))))) (.neg (.int 1))) .nil))) .nil)), none⟩
noncomputable def z48 : ZDfn := ⟨7, [], (.cons (.expr (.call 11 (.cons (.loc 0) (.cons (.loc 1) .nil)))) (.cons (.expr (.call 14 (.cons (.loc 2) .nil))) (.cons (.asg (.name 3) (.lst .nil)) (.cons (.for_ (.tup (.cons (.name 4) (.cons (.name 5) .nil))) (.enm (.call 39 (.cons (.loc 0) (.cons (.loc 1) (.cons (.loc 2) (.cons (.call 41 (.cons (.loc 0) (.cons (.loc 1) .nil))) .nil)))))) (.cons (.asg (.name 6) (.call 40 (.cons (.loc 5) .nil))) (.cons (.ite (.and (.cmp .isn (.loc 6) .non) (.or (.cmp .eq (.loc 3) (.lst .nil)) (.cmp .lt (.loc 6) (.sub (.sub (.loc 3) (.neg (.int 1))) (.int 1))))) (.cons (.expr (.app (.loc 3) (.tup (.cons (.loc 4) (.cons (.loc 6) .nil))))) .nil) .nil) .nil))) (.cons (.ret (.loc 3)) .nil))))), none⟩
noncomputable def z49 : ZDfn := ⟨7, [], (.cons (.expr (.call 50 (.cons (.loc 0) (.cons (.loc 1) (.cons (.loc 2) (.cons (.loc 3) .nil)))))) (.cons (.expr (.call 51 (.cons (.loc 4) .nil))) (.cons (.asg (.name 5) (.call 39 (.cons (.loc 0) (.cons (.loc 1) (.cons (.loc 2) (.cons (.loc 3) .nil)))))) (.cons (.asg (.name 6) (.call 40 (.cons (.sub (.loc 5) (.neg (.int 1))) .nil))) (.cons (.ite (.and (.cmp .isn (.loc 6) .non) (.cmp .le (.loc 6) (.loc 4))) (.cons (.ret (.tup (.cons (.glo 35) (.cons (.call 44 (.cons (.loc 0) (.cons (.loc 1) (.cons (.loc 2) (.cons (.loc 5) .nil))))) .nil)))) .nil) .nil) (.cons (.ret (.tup (.cons (.glo 36) (.cons (.bf .tuple (.cons (.loc 5) .nil)) .nil)))) .nil)))))), none⟩
noncomputable def z50 : ZDfn := ⟨6, [], (.cons (.expr (.call 50 (.cons (.loc 0) (.cons (.loc 1) (.cons (.loc 2) (.cons (.loc 3) .nil)))))) (.cons (.expr (.call 51 (.cons (.loc 4) .nil))) (.cons (.ite (.or (.not (.isi (.loc 5) [.bt .tup])) (.or (.cmp .ne (.bf .len (.cons (.loc 5) .nil)) (.int 2)) (.not (.isi (.sub (.loc 5) (.int 0)) [.bt .str])))) (.cons (.ret (.bl false)) .nil) .nil) (.cons (.ite (.cmp .eq (.sub (.loc 5) (.int 0)) (.glo 36)) (.cons (.ret (.call 49 (.cons (.loc 0) (.cons (.loc 1) (.cons (.loc 2) (.cons (.loc 3) (.cons (.loc 4) (.cons (.sub (.loc 5) (.int 1)) .nil)))))))) .nil) .nil) (.cons (.ite (.or (.cmp .ne (.sub (.loc 5) (.int 0)) (.glo 35)) (.not (.call 19 (.cons (.loc 0) (.cons (.loc 1) (.cons (.sub (.loc 5) (.int 1)) .nil)))))) (.cons (.ret (.bl false)) .nil) .nil) (.cons (.ret (.and (.cmp .le (.bf .len (.cons (.call 22 (.cons (.loc 0) (.cons (.loc 1) (.cons (.sub (.loc 5) (.int 1)) .nil)))) .nil)) (.loc 3)) (.cmp .le (.call 26 (.cons (.loc 0) (.cons (.loc 1) (.cons (.sub (.loc 5) (.int 1)) (.cons (.loc 2) .nil))))) (.loc 4)))) .nil)))))), none⟩
noncomputable def z51 : ZDfn := ⟨3, [], (.cons (.asg (.name 2) (.ite (.cmp .lt (.loc 1) (.bf .len (.cons (.loc 0) .nil))) (.bf .abs (.cons (.sub (.loc 0) (.loc 1)) .nil)) (.bin .add (.bin .mul (.int 2341) (.loc 1)) (.int 1549)))) (.cons (.ret (.lst (.cons (.bf .max (.cons (.int 0) (.cons (.bin .sub (.loc 2) (.bin .pow (.int 10) (.int 18))) .nil))) (.cons (.bin .add (.bin .mod (.bf .int (.cons (.bin .add (.bin .add (.bin .mul (.bin .mod (.bf .int (.cons (.loc 2) .nil)) (.int 2147483549)) (.int 41473)) (.bin .mul (.int 1549) (.loc 1))) (.int 709)) .nil)) (.int 2147483563)) (.int 1)) .nil)))) .nil)), none⟩
noncomputable def z52 : ZDfn := ⟨3, [], (.cons (.ite (.cmp .gt (.sub (.loc 0) (.int 0)) (.int 0)) (.cons (.asg (.tup (.cons (.sub (.loc 0) (.int 0)) (.cons (.name 2) .nil))) (.bf .divmod (.cons (.sub (.loc 0) (.int 0)) (.cons (.loc 1) .nil)))) (.cons (.ret (.loc 2)) .nil)) .nil) (.cons (.asg (.sub (.loc 0) (.int 1)) (.bin .mod (.bf .int (.cons (.bin .add (.bin .mul (.sub (.loc 0) (.int 1)) (.int 48271)) (.int 2341)) .nil)) (.int 2147483587))) (.cons (.ret (.bin .mod (.bf .int (.cons (.bin .fdiv (.bin .mod (.bf .int (.cons (.bin .mul (.sub (.loc 0) (.int 1)) (.sub (.loc 0) (.int 1))) .nil)) (.int 2147483549)) (.int 613)) .nil)) (.loc 1))) .nil))), none⟩
noncomputable def z53 : ZDfn := ⟨2, [], (.cons (.ret (.sub (.loc 1) (.call 57 (.cons (.loc 0) (.cons (.bf .len (.cons (.loc 1) .nil)) .nil))))) .nil), (some (.sub (.loc 1) (.call 57 (.cons (.loc 0) (.cons (.bf .len (.cons (.loc 1) .nil)) .nil)))))⟩
noncomputable def z54 : ZDfn := ⟨3, [], (.cons (.asg (.name 1) (.lst (.cons (.str (Str.ofString "let")) .nil))) (.cons (.try_ (.cons (.expr (.callv (.loc 0))) .nil) (.cons 2 2 (.cons (.asg (.name 1) (.lst (.cons (.str (Str.ofString "text")) (.cons (.bf .repr (.cons (.fld (.loc 2) 1) .nil)) (.cons (.isi (.loc 2) [.own 0]) .nil))))) .nil) (.cons 3 2 (.cons (.asg (.name 1) (.lst (.cons (.str (Str.ofString "costs")) (.cons (.fld (.loc 2) 31) (.cons (.bf .repr (.cons (.fld (.loc 2) 1) .nil)) .nil))))) .nil) (.cons 6 2 (.cons (.asg (.name 1) (.lst (.cons (.str (Str.ofString "count")) (.cons (.bf .repr (.cons (.fld (.loc 2) 1) .nil)) (.cons (.isi (.loc 2) [.own 0]) .nil))))) .nil) (.cons 5 2 (.cons (.asg (.name 1) (.lst (.cons (.str (Str.ofString "budget")) (.cons (.bf .repr (.cons (.fld (.loc 2) 1) .nil)) (.cons (.isi (.loc 2) [.own 0]) .nil))))) .nil) .nil))))) (.cons (.ret (.loc 1)) .nil))), none⟩
noncomputable def z55 : ZDfn := ⟨6, [0, 1, 2, 3, 4], (.cons (.asg (.name 5) (.lst (.cons (.lam 58) .nil))) (.cons (.expr (.app (.loc 5) (.lam 59))) (.cons (.expr (.app (.loc 5) (.lam 60))) (.cons (.expr (.app (.loc 5) (.lam 61))) (.cons (.expr (.app (.loc 5) (.lam 62))) (.cons (.ret (.loc 5)) .nil)))))), none⟩
noncomputable def z56 : ZDfn := ⟨9, [1, 2, 3, 4], (.cons (.asg (.tup (.cons (.name 1) (.cons (.name 2) (.cons (.name 3) .nil)))) (.tup (.cons (.lst (.cons (.str (Str.ofString "a")) (.cons (.str (Str.ofString "b")) (.cons (.str (Str.ofString "a")) .nil)))) (.cons (.lst (.cons (.str (Str.ofString "b")) (.cons (.str (Str.ofString "a")) (.cons (.str (Str.ofString "c")) .nil)))) (.cons (.call 16 (.cons (.int 1) (.cons (.int 2) .nil))) .nil))))) (.cons (.asg (.name 4) (.call 58 (.cons (.loc 0) (.cons (.lst (.cons .non (.cons (.str (Str.ofString "ab")) (.cons (.int 5) (.cons (.lst (.cons (.str (Str.ofString "a")) (.cons (.int 1) .nil))) (.cons (.bin .mul (.lst (.cons (.str (Str.ofString "a")) .nil)) (.int 61)) (.cons (.dic .nil) (.cons (.lst (.cons .non .nil)) .nil)))))))) .nil)))) (.cons (.asg (.name 5) (.bin .add (.bin .add (.call 60 (.cons (.loc 4) (.cons (.loc 4) (.cons (.loc 4) (.cons (.loc 4) (.cons (.loc 4) .nil)))))) (.call 60 (.cons (.loc 1) (.cons (.loc 4) (.cons .non (.cons .non (.cons .non .nil))))))) (.lst (.cons (.lam 63) .nil)))) (.cons (.ite (.not (.bf .all (.cons (.lc (.cmp .eq (.call 59 (.cons (.loc 8) .nil)) (.lst (.cons (.str (Str.ofString "text")) (.cons (.bf .repr (.cons (.loc 4) .nil)) (.cons (.bl true) .nil))))) (.name 8) (.ex (.loc 5)) .nil [8]) .nil))) (.cons (.ret (.bl false)) .nil) .nil) (.cons (.asg (.name 4) (.call 58 (.cons (.loc 0) (.cons (.lst (.cons .non (.cons (.str (Str.ofString "blocks")) (.cons (.int 5) (.cons (.tup (.cons (.int 1) (.cons (.int 2) .nil))) (.cons (.dic .nil) .nil)))))) .nil)))) (.cons (.asg (.name 5) (.bin .add (.call 60 (.cons (.loc 1) (.cons (.loc 2) (.cons (.loc 4) (.cons .non (.cons .non .nil)))))) (.lst (.cons (.lam 64) .nil)))) (.cons (.ite (.not (.bf .all (.cons (.lc (.cmp .eq (.call 59 (.cons (.loc 8) .nil)) (.lst (.cons (.str (Str.ofString "costs")) (.cons (.str (Str.ofString "costs")) (.cons (.bf .repr (.cons (.loc 4) .nil)) .nil))))) (.name 8) (.ex (.loc 5)) .nil [8]) .nil))) (.cons (.ret (.bl false)) .nil) .nil) (.cons (.asg (.name 4) (.call 58 (.cons (.loc 0) (.cons (.lst (.cons .non (.cons (.neg (.int 1)) (.cons (.int 62) (.cons (.bl true) (.cons (.str (Str.ofString "1")) (.cons (.lst (.cons (.int 1) .nil)) .nil))))))) .nil)))) (.cons (.ite (.not (.bf .all (.cons (.lc (.cmp .eq (.call 59 (.cons (.loc 8) .nil)) (.lst (.cons (.str (Str.ofString "count")) (.cons (.bf .repr (.cons (.loc 4) .nil)) (.cons (.bl true) .nil))))) (.name 8) (.ex (.call 60 (.cons (.loc 1) (.cons (.loc 2) (.cons (.loc 3) (.cons (.loc 4) (.cons .non .nil))))))) .nil [8]) .nil))) (.cons (.ret (.bl false)) .nil) .nil) (.cons (.asg (.name 4) (.call 58 (.cons (.loc 0) (.cons (.lst (.cons .non (.cons (.str (Str.ofString "1")) (.cons (.bl true) (.cons (.tup (.cons (.int 1) .nil)) (.cons (.lst (.cons (.int 1) .nil)) .nil)))))) .nil)))) (.cons (.ite (.not (.bf .all (.cons (.lc (.cmp .eq (.call 59 (.cons (.loc 8) .nil)) (.lst (.cons (.str (Str.ofString "budget")) (.cons (.bf .repr (.cons (.loc 4) .nil)) (.cons (.bl true) .nil))))) (.name 8) (.ex (.sli (.call 60 (.cons (.loc 1) (.cons (.loc 2) (.cons (.loc 3) (.cons (.int 1) (.cons (.loc 4) .nil)))))) (.int 2) .non)) .nil [8]) .nil))) (.cons (.ret (.bl false)) .nil) .nil) (.cons (.asg (.name 6) (.call 53 (.cons (.loc 1) (.cons (.loc 2) (.cons (.loc 3) .nil))))) (.cons (.asg (.name 7) (.bf .repr (.cons (.loc 6) .nil))) (.cons (.expr (.app (.loc 6) .non)) (.cons (.ret (.and (.cmp .eq (.bf .repr (.cons (.call 53 (.cons (.bf .tuple (.cons (.loc 1) .nil)) (.cons (.bf .tuple (.cons (.loc 2) .nil)) (.cons (.loc 3) .nil)))) .nil)) (.loc 7)) (.cmp .eq (.call 59 (.cons (.lam 65) .nil)) (.lst (.cons (.str (Str.ofString "let")) .nil))))) .nil))))))))))))))), none⟩
noncomputable def z57 : ZDfn := ⟨1, [], (.cons (.ret (.and (.call 61 (.cons (.call 56 (.cons (.loc 0) (.cons (.int 0) .nil))) .nil)) (.call 61 (.cons (.call 56 (.cons (.loc 0) (.cons (.int 1) .nil))) .nil)))) .nil), (some (.and (.call 61 (.cons (.call 56 (.cons (.loc 0) (.cons (.int 0) .nil))) .nil)) (.call 61 (.cons (.call 56 (.cons (.loc 0) (.cons (.int 1) .nil))) .nil))))⟩
noncomputable def z58 : ZDfn := ⟨6, [0, 1, 2, 3], (.cons (.ret (.call 52 (.cons (.loc 0) (.cons (.loc 1) (.cons (.loc 2) (.cons (.loc 3) .nil)))))) .nil), (some (.call 52 (.cons (.loc 0) (.cons (.loc 1) (.cons (.loc 2) (.cons (.loc 3) .nil))))))⟩
noncomputable def z59 : ZDfn := ⟨6, [0, 1, 2, 3], (.cons (.ret (.callk 52 [23, 16, 14, 13] (.cons (.loc 3) (.cons (.loc 2) (.cons (.loc 1) (.cons (.loc 0) .nil)))))) .nil), (some (.callk 52 [23, 16, 14, 13] (.cons (.loc 3) (.cons (.loc 2) (.cons (.loc 1) (.cons (.loc 0) .nil))))))⟩
noncomputable def z60 : ZDfn := ⟨6, [0, 1, 2, 3, 4], (.cons (.ret (.call 54 (.cons (.loc 0) (.cons (.loc 1) (.cons (.loc 2) (.cons (.loc 3) (.cons (.loc 4) .nil))))))) .nil), (some (.call 54 (.cons (.loc 0) (.cons (.loc 1) (.cons (.loc 2) (.cons (.loc 3) (.cons (.loc 4) .nil)))))))⟩
noncomputable def z61 : ZDfn := ⟨6, [0, 1, 2, 3, 4], (.cons (.ret (.call 55 (.cons (.loc 0) (.cons (.loc 1) (.cons (.loc 2) (.cons (.loc 3) (.cons (.loc 4) (.cons .non .nil)))))))) .nil), (some (.call 55 (.cons (.loc 0) (.cons (.loc 1) (.cons (.loc 2) (.cons (.loc 3) (.cons (.loc 4) (.cons .non .nil))))))))⟩
noncomputable def z62 : ZDfn := ⟨6, [0, 1, 2, 3, 4], (.cons (.ret (.callk 55 [1, 28, 23, 16, 14, 13] (.cons .non (.cons (.loc 4) (.cons (.loc 3) (.cons (.loc 2) (.cons (.loc 1) (.cons (.loc 0) .nil)))))))) .nil), (some (.callk 55 [1, 28, 23, 16, 14, 13] (.cons .non (.cons (.loc 4) (.cons (.loc 3) (.cons (.loc 2) (.cons (.loc 1) (.cons (.loc 0) .nil))))))))⟩
noncomputable def z63 : ZDfn := ⟨9, [4], (.cons (.ret (.call 53 (.cons (.loc 4) (.cons .non (.cons .non .nil))))) .nil), (some (.call 53 (.cons (.loc 4) (.cons .non (.cons .non .nil)))))⟩
noncomputable def z64 : ZDfn := ⟨9, [1, 2, 4], (.cons (.ret (.callk 53 [16, 14, 13] (.cons (.loc 4) (.cons (.loc 2) (.cons (.loc 1) .nil))))) .nil), (some (.callk 53 [16, 14, 13] (.cons (.loc 4) (.cons (.loc 2) (.cons (.loc 1) .nil)))))⟩
noncomputable def z65 : ZDfn := ⟨9, [1, 2, 3], (.cons (.ret (.call 52 (.cons (.loc 1) (.cons (.loc 2) (.cons (.loc 3) (.cons (.int 61) .nil)))))) .nil), (some (.call 52 (.cons (.loc 1) (.cons (.loc 2) (.cons (.loc 3) (.cons (.int 61) .nil))))))⟩
noncomputable def zd : Tr ZDfn := Tr.ofList [z0, z1, z2, z3, z4, z5, z6, z7, z8, z9, z10, z11, z12, z13, z14, z15, z16, z17, z18, z19, z20, z21, z22, z23, z24, z25, z26, z27, z28, z29, z30, z31, z32, z33, z34, z35, z36, z37, z38, z39, z40, z41, z42, z43, z44, z45, z46, z47, z48, z49, z50, z51, z52, z53, z54, z55, z56, z57, z58, z59, z60, z61, z62, z63, z64, z65]
theorem hZ : prog.dfns.map denD = zd := by kernel_rfl
end K90

set_option Elab.async false
set_option linter.all false
set_option maxRecDepth 100000
set_option maxHeartbeats 0
namespace K90
open PySem PySem.W PySem.Calls PyProof.Rows
abbrev R : OpenRow := OpenLaw.row PySem.Challenge.rw_mixeddiffs_k90_fronts_refused_and_named
abbrev qv : Program := view R.prog [70]
def loose1 : List PySem.Str := gn.take 36
def loose2 : List PySem.Str := (gn.drop 36).filter fun x => !(x == ("law" : PySem.Str))
abbrev hk : Hook := Py.hookP 5 T R.prog
theorem run (w : World) : HandSHeadRun.RunEq R qv hk (Py.obP 5 T R.prog) 6000 (loose1 ++ loose2) w := by
  intro os
  kernel_rfl
end K90
set_option Elab.async false
set_option linter.all false
set_option maxRecDepth 100000
set_option maxHeartbeats 0
noncomputable section
namespace K90
open Py PySem PySem.Spec PyProof.Rows L2
abbrev NN : Nat := 30
def C0 : CallH := callD prog (NN + 2)
def CZ : CallH := callZ prog zd (NN + 2)
def ps : List Pat := [.same (.cell (some (.obj 5))), .same (.cell (some (.obj 6))), .same (.cell (some (.obj 7))), .cel, .same (.lst [.str (Str.ofString "a"), .str (Str.ofString "b"), .str (Str.ofString "a")]), .same (.lst [.str (Str.ofString "b"), .str (Str.ofString "a"), .str (Str.ofString "c")]), .same (.ins 6 [(4, .tup [.int 1, .int 2]), (5, .obj 9)]), .same (.dct [] true), .same (.dct [] false)]
def frc : Py.Frame := [.v (.obj 0), .c 1, .c 2, .c 3, .c 4, .n, .n, .n, .n]
def s0 : ISs := (.cons (.asg (.tup (.cons (.name 1) (.cons (.name 2) (.cons (.name 3) .nil)))) (.tup (.cons (.lst (.cons (.str (Str.ofString "a")) (.cons (.str (Str.ofString "b")) (.cons (.str (Str.ofString "a")) .nil)))) (.cons (.lst (.cons (.str (Str.ofString "b")) (.cons (.str (Str.ofString "a")) (.cons (.str (Str.ofString "c")) .nil)))) (.cons (.call 16 (.cons (.int 1) (.cons (.int 2) .nil))) .nil))))) .nil)
def zs0 : ZSs := (.cons (.asg (.tup (.cons (.name 1) (.cons (.name 2) (.cons (.name 3) .nil)))) (.tup (.cons (.lst (.cons (.str (Str.ofString "a")) (.cons (.str (Str.ofString "b")) (.cons (.str (Str.ofString "a")) .nil)))) (.cons (.lst (.cons (.str (Str.ofString "b")) (.cons (.str (Str.ofString "a")) (.cons (.str (Str.ofString "c")) .nil)))) (.cons (.call 16 (.cons (.int 1) (.cons (.int 2) .nil))) .nil))))) .nil)
theorem ez0 : denSs s0 = zs0 := by kernel_rfl
def a1 : IEs := (.cons (.loc 0) (.cons (.lst (.cons .non (.cons (.str (Str.ofString "ab")) (.cons (.int 5) (.cons (.lst (.cons (.str (Str.ofString "a")) (.cons (.int 1) .nil))) (.cons (.bin .mul (.lst (.cons (.str (Str.ofString "a")) .nil)) (.int 61)) (.cons (.dic .nil) (.cons (.lst (.cons .non .nil)) .nil)))))))) .nil))
def za1 : ZEs := (.cons (.loc 0) (.cons (.lst (.cons .non (.cons (.str (Str.ofString "ab")) (.cons (.int 5) (.cons (.lst (.cons (.str (Str.ofString "a")) (.cons (.int 1) .nil))) (.cons (.bin .mul (.lst (.cons (.str (Str.ofString "a")) .nil)) (.int 61)) (.cons (.dic .nil) (.cons (.lst (.cons .non .nil)) .nil)))))))) .nil))
def s1 : ISs := (.cons (.asg (.name 5) (.bin .add (.bin .add (.call 60 (.cons (.loc 4) (.cons (.loc 4) (.cons (.loc 4) (.cons (.loc 4) (.cons (.loc 4) .nil)))))) (.call 60 (.cons (.loc 1) (.cons (.loc 4) (.cons .non (.cons .non (.cons .non .nil))))))) (.lst (.cons (.lam 63) .nil)))) (.cons (.ite (.not (.bf .all (.cons (.lc (.cmp .eq (.call 59 (.cons (.loc 8) .nil)) (.lst (.cons (.str (Str.ofString "text")) (.cons (.bf .repr (.cons (.loc 4) .nil)) (.cons (.bl true) .nil))))) (.name 8) (.ex (.loc 5)) .nil [8]) .nil))) (.cons (.ret (.bl false)) .nil) .nil) .nil))
def zs1 : ZSs := (.cons (.asg (.name 5) (.bin .add (.bin .add (.call 60 (.cons (.loc 4) (.cons (.loc 4) (.cons (.loc 4) (.cons (.loc 4) (.cons (.loc 4) .nil)))))) (.call 60 (.cons (.loc 1) (.cons (.loc 4) (.cons .non (.cons .non (.cons .non .nil))))))) (.lst (.cons (.lam 63) .nil)))) (.cons (.ite (.not (.bf .all (.cons (.lc (.cmp .eq (.call 59 (.cons (.loc 8) .nil)) (.lst (.cons (.str (Str.ofString "text")) (.cons (.bf .repr (.cons (.loc 4) .nil)) (.cons (.bl true) .nil))))) (.name 8) (.ex (.loc 5)) .nil [8]) .nil))) (.cons (.ret (.bl false)) .nil) .nil) .nil))
theorem ea1 : denEs a1 = za1 := by kernel_rfl
theorem ez1 : denSs s1 = zs1 := by kernel_rfl
theorem n1 (x y : Int) : secN prog C0 a1 ps frc x y 7 = true := by kernel_rfl
theorem p1_0 (x y x' y' : Int) : secAtZ prog CZ za1 zs1 ps frc x y x' y' 0 = true := by kernel_rfl
theorem p1_1 (x y x' y' : Int) : secAtZ prog CZ za1 zs1 ps frc x y x' y' 1 = true := by kernel_rfl
theorem p1_2 (x y x' y' : Int) : secAtZ prog CZ za1 zs1 ps frc x y x' y' 2 = true := by kernel_rfl
theorem p1_3 (x y x' y' : Int) : secAtZ prog CZ za1 zs1 ps frc x y x' y' 3 = true := by kernel_rfl
theorem p1_4 (x y x' y' : Int) : secAtZ prog CZ za1 zs1 ps frc x y x' y' 4 = true := by kernel_rfl
theorem p1_5 (x y x' y' : Int) : secAtZ prog CZ za1 zs1 ps frc x y x' y' 5 = true := by kernel_rfl
theorem p1_6 (x y x' y' : Int) : secAtZ prog CZ za1 zs1 ps frc x y x' y' 6 = true := by kernel_rfl
theorem p1 (x y x' y' : Int) : secOk prog C0 a1 s1 ps frc x y x' y' = true := sec_of (n1 x y) fun i hi => secAt_z hZ _ ea1 ez1 (match i, hi with
  | 0, _ => p1_0 x y x' y'
  | 1, _ => p1_1 x y x' y'
  | 2, _ => p1_2 x y x' y'
  | 3, _ => p1_3 x y x' y'
  | 4, _ => p1_4 x y x' y'
  | 5, _ => p1_5 x y x' y'
  | 6, _ => p1_6 x y x' y'
  | i + 7, hi => absurd hi (by omega))
def a2 : IEs := (.cons (.loc 0) (.cons (.lst (.cons .non (.cons (.str (Str.ofString "blocks")) (.cons (.int 5) (.cons (.tup (.cons (.int 1) (.cons (.int 2) .nil))) (.cons (.dic .nil) .nil)))))) .nil))
def za2 : ZEs := (.cons (.loc 0) (.cons (.lst (.cons .non (.cons (.str (Str.ofString "blocks")) (.cons (.int 5) (.cons (.tup (.cons (.int 1) (.cons (.int 2) .nil))) (.cons (.dic .nil) .nil)))))) .nil))
def s2 : ISs := (.cons (.asg (.name 5) (.bin .add (.call 60 (.cons (.loc 1) (.cons (.loc 2) (.cons (.loc 4) (.cons .non (.cons .non .nil)))))) (.lst (.cons (.lam 64) .nil)))) (.cons (.ite (.not (.bf .all (.cons (.lc (.cmp .eq (.call 59 (.cons (.loc 8) .nil)) (.lst (.cons (.str (Str.ofString "costs")) (.cons (.str (Str.ofString "costs")) (.cons (.bf .repr (.cons (.loc 4) .nil)) .nil))))) (.name 8) (.ex (.loc 5)) .nil [8]) .nil))) (.cons (.ret (.bl false)) .nil) .nil) .nil))
def zs2 : ZSs := (.cons (.asg (.name 5) (.bin .add (.call 60 (.cons (.loc 1) (.cons (.loc 2) (.cons (.loc 4) (.cons .non (.cons .non .nil)))))) (.lst (.cons (.lam 64) .nil)))) (.cons (.ite (.not (.bf .all (.cons (.lc (.cmp .eq (.call 59 (.cons (.loc 8) .nil)) (.lst (.cons (.str (Str.ofString "costs")) (.cons (.str (Str.ofString "costs")) (.cons (.bf .repr (.cons (.loc 4) .nil)) .nil))))) (.name 8) (.ex (.loc 5)) .nil [8]) .nil))) (.cons (.ret (.bl false)) .nil) .nil) .nil))
theorem ea2 : denEs a2 = za2 := by kernel_rfl
theorem ez2 : denSs s2 = zs2 := by kernel_rfl
theorem n2 (x y : Int) : secN prog C0 a2 ps frc x y 5 = true := by kernel_rfl
theorem p2_0 (x y x' y' : Int) : secAtZ prog CZ za2 zs2 ps frc x y x' y' 0 = true := by kernel_rfl
theorem p2_1 (x y x' y' : Int) : secAtZ prog CZ za2 zs2 ps frc x y x' y' 1 = true := by kernel_rfl
theorem p2_2 (x y x' y' : Int) : secAtZ prog CZ za2 zs2 ps frc x y x' y' 2 = true := by kernel_rfl
theorem p2_3 (x y x' y' : Int) : secAtZ prog CZ za2 zs2 ps frc x y x' y' 3 = true := by kernel_rfl
theorem p2_4 (x y x' y' : Int) : secAtZ prog CZ za2 zs2 ps frc x y x' y' 4 = true := by kernel_rfl
theorem p2 (x y x' y' : Int) : secOk prog C0 a2 s2 ps frc x y x' y' = true := sec_of (n2 x y) fun i hi => secAt_z hZ _ ea2 ez2 (match i, hi with
  | 0, _ => p2_0 x y x' y'
  | 1, _ => p2_1 x y x' y'
  | 2, _ => p2_2 x y x' y'
  | 3, _ => p2_3 x y x' y'
  | 4, _ => p2_4 x y x' y'
  | i + 5, hi => absurd hi (by omega))
def a3 : IEs := (.cons (.loc 0) (.cons (.lst (.cons .non (.cons (.neg (.int 1)) (.cons (.int 62) (.cons (.bl true) (.cons (.str (Str.ofString "1")) (.cons (.lst (.cons (.int 1) .nil)) .nil))))))) .nil))
def za3 : ZEs := (.cons (.loc 0) (.cons (.lst (.cons .non (.cons (.neg (.int 1)) (.cons (.int 62) (.cons (.bl true) (.cons (.str (Str.ofString "1")) (.cons (.lst (.cons (.int 1) .nil)) .nil))))))) .nil))
def s3 : ISs := (.cons (.ite (.not (.bf .all (.cons (.lc (.cmp .eq (.call 59 (.cons (.loc 8) .nil)) (.lst (.cons (.str (Str.ofString "count")) (.cons (.bf .repr (.cons (.loc 4) .nil)) (.cons (.bl true) .nil))))) (.name 8) (.ex (.call 60 (.cons (.loc 1) (.cons (.loc 2) (.cons (.loc 3) (.cons (.loc 4) (.cons .non .nil))))))) .nil [8]) .nil))) (.cons (.ret (.bl false)) .nil) .nil) .nil)
def zs3 : ZSs := (.cons (.ite (.not (.bf .all (.cons (.lc (.cmp .eq (.call 59 (.cons (.loc 8) .nil)) (.lst (.cons (.str (Str.ofString "count")) (.cons (.bf .repr (.cons (.loc 4) .nil)) (.cons (.bl true) .nil))))) (.name 8) (.ex (.call 60 (.cons (.loc 1) (.cons (.loc 2) (.cons (.loc 3) (.cons (.loc 4) (.cons .non .nil))))))) .nil [8]) .nil))) (.cons (.ret (.bl false)) .nil) .nil) .nil)
theorem ea3 : denEs a3 = za3 := by kernel_rfl
theorem ez3 : denSs s3 = zs3 := by kernel_rfl
theorem n3 (x y : Int) : secN prog C0 a3 ps frc x y 6 = true := by kernel_rfl
theorem p3_0 (x y x' y' : Int) : secAtZ prog CZ za3 zs3 ps frc x y x' y' 0 = true := by kernel_rfl
theorem p3_1 (x y x' y' : Int) : secAtZ prog CZ za3 zs3 ps frc x y x' y' 1 = true := by kernel_rfl
theorem p3_2 (x y x' y' : Int) : secAtZ prog CZ za3 zs3 ps frc x y x' y' 2 = true := by kernel_rfl
theorem p3_3 (x y x' y' : Int) : secAtZ prog CZ za3 zs3 ps frc x y x' y' 3 = true := by kernel_rfl
theorem p3_4 (x y x' y' : Int) : secAtZ prog CZ za3 zs3 ps frc x y x' y' 4 = true := by kernel_rfl
theorem p3_5 (x y x' y' : Int) : secAtZ prog CZ za3 zs3 ps frc x y x' y' 5 = true := by kernel_rfl
theorem p3 (x y x' y' : Int) : secOk prog C0 a3 s3 ps frc x y x' y' = true := sec_of (n3 x y) fun i hi => secAt_z hZ _ ea3 ez3 (match i, hi with
  | 0, _ => p3_0 x y x' y'
  | 1, _ => p3_1 x y x' y'
  | 2, _ => p3_2 x y x' y'
  | 3, _ => p3_3 x y x' y'
  | 4, _ => p3_4 x y x' y'
  | 5, _ => p3_5 x y x' y'
  | i + 6, hi => absurd hi (by omega))
def a4 : IEs := (.cons (.loc 0) (.cons (.lst (.cons .non (.cons (.str (Str.ofString "1")) (.cons (.bl true) (.cons (.tup (.cons (.int 1) .nil)) (.cons (.lst (.cons (.int 1) .nil)) .nil)))))) .nil))
def za4 : ZEs := (.cons (.loc 0) (.cons (.lst (.cons .non (.cons (.str (Str.ofString "1")) (.cons (.bl true) (.cons (.tup (.cons (.int 1) .nil)) (.cons (.lst (.cons (.int 1) .nil)) .nil)))))) .nil))
def s4 : ISs := (.cons (.ite (.not (.bf .all (.cons (.lc (.cmp .eq (.call 59 (.cons (.loc 8) .nil)) (.lst (.cons (.str (Str.ofString "budget")) (.cons (.bf .repr (.cons (.loc 4) .nil)) (.cons (.bl true) .nil))))) (.name 8) (.ex (.sli (.call 60 (.cons (.loc 1) (.cons (.loc 2) (.cons (.loc 3) (.cons (.int 1) (.cons (.loc 4) .nil)))))) (.int 2) .non)) .nil [8]) .nil))) (.cons (.ret (.bl false)) .nil) .nil) .nil)
def zs4 : ZSs := (.cons (.ite (.not (.bf .all (.cons (.lc (.cmp .eq (.call 59 (.cons (.loc 8) .nil)) (.lst (.cons (.str (Str.ofString "budget")) (.cons (.bf .repr (.cons (.loc 4) .nil)) (.cons (.bl true) .nil))))) (.name 8) (.ex (.sli (.call 60 (.cons (.loc 1) (.cons (.loc 2) (.cons (.loc 3) (.cons (.int 1) (.cons (.loc 4) .nil)))))) (.int 2) .non)) .nil [8]) .nil))) (.cons (.ret (.bl false)) .nil) .nil) .nil)
theorem ea4 : denEs a4 = za4 := by kernel_rfl
theorem ez4 : denSs s4 = zs4 := by kernel_rfl
theorem n4 (x y : Int) : secN prog C0 a4 ps frc x y 5 = true := by kernel_rfl
theorem p4_0 (x y x' y' : Int) : secAtZ prog CZ za4 zs4 ps frc x y x' y' 0 = true := by kernel_rfl
theorem p4_1 (x y x' y' : Int) : secAtZ prog CZ za4 zs4 ps frc x y x' y' 1 = true := by kernel_rfl
theorem p4_2 (x y x' y' : Int) : secAtZ prog CZ za4 zs4 ps frc x y x' y' 2 = true := by kernel_rfl
theorem p4_3 (x y x' y' : Int) : secAtZ prog CZ za4 zs4 ps frc x y x' y' 3 = true := by kernel_rfl
theorem p4_4 (x y x' y' : Int) : secAtZ prog CZ za4 zs4 ps frc x y x' y' 4 = true := by kernel_rfl
theorem p4 (x y x' y' : Int) : secOk prog C0 a4 s4 ps frc x y x' y' = true := sec_of (n4 x y) fun i hi => secAt_z hZ _ ea4 ez4 (match i, hi with
  | 0, _ => p4_0 x y x' y'
  | 1, _ => p4_1 x y x' y'
  | 2, _ => p4_2 x y x' y'
  | 3, _ => p4_3 x y x' y'
  | 4, _ => p4_4 x y x' y'
  | i + 5, hi => absurd hi (by omega))
def sL : ISs := (.cons (.asg (.name 6) (.call 53 (.cons (.loc 1) (.cons (.loc 2) (.cons (.loc 3) .nil))))) (.cons (.asg (.name 7) (.bf .repr (.cons (.loc 6) .nil))) (.cons (.expr (.app (.loc 6) .non)) (.cons (.ret (.and (.cmp .eq (.bf .repr (.cons (.call 53 (.cons (.bf .tuple (.cons (.loc 1) .nil)) (.cons (.bf .tuple (.cons (.loc 2) .nil)) (.cons (.loc 3) .nil)))) .nil)) (.loc 7)) (.cmp .eq (.call 59 (.cons (.lam 65) .nil)) (.lst (.cons (.str (Str.ofString "let")) .nil))))) .nil))))
def zsL : ZSs := (.cons (.asg (.name 6) (.call 53 (.cons (.loc 1) (.cons (.loc 2) (.cons (.loc 3) .nil))))) (.cons (.asg (.name 7) (.bf .repr (.cons (.loc 6) .nil))) (.cons (.expr (.app (.loc 6) .non)) (.cons (.ret (.and (.cmp .eq (.bf .repr (.cons (.call 53 (.cons (.bf .tuple (.cons (.loc 1) .nil)) (.cons (.bf .tuple (.cons (.loc 2) .nil)) (.cons (.loc 3) .nil)))) .nil)) (.loc 7)) (.cmp .eq (.call 59 (.cons (.lam 65) .nil)) (.lst (.cons (.str (Str.ofString "let")) .nil))))) .nil))))
theorem ezL : denSs sL = zsL := by kernel_rfl
theorem pL_ (x y : Int) : rtOk (zsL.run prog CZ frc (small_ ps x y)) = true := by kernel_rfl
theorem pL (x y : Int) : rtOk (evalSs prog C0 sL frc (small_ ps x y)) = true := by
  rw [show C0 = callD prog (NN + 2) from rfl, den_run hZ _ ezL]
  exact pL_ x y
theorem p0_ (x y : Int) : nxOk ps frc (zs0.run prog CZ (defStart d56.cells ([.v (.obj 0)] ++ List.replicate (d56.ns - 1) .n) (ofL [.lst [.int x, .int y]])).1 (defStart d56.cells ([.v (.obj 0)] ++ List.replicate (d56.ns - 1) .n) (ofL [.lst [.int x, .int y]])).2) = true := by kernel_rfl
theorem p0 (x y : Int) : nxOk ps frc (evalSs prog C0 s0 (defStart d56.cells ([.v (.obj 0)] ++ List.replicate (d56.ns - 1) .n) (ofL [.lst [.int x, .int y]])).1 (defStart d56.cells ([.v (.obj 0)] ++ List.replicate (d56.ns - 1) .n) (ofL [.lst [.int x, .int y]])).2) = true := by
  rw [show C0 = callD prog (NN + 2) from rfl, den_run hZ _ ez0]
  exact p0_ x y
end K90


set_option Elab.async false
set_option linter.all false
set_option maxRecDepth 100000
set_option maxHeartbeats 0
noncomputable section
namespace K90
open Py PySem PySem.Spec PyProof.Rows L2
def dt56 : DT := ⟨("_law_right", none), "_law_right", "_law_right", defArgs (top 69), defBody (top 69), defScope (top 69), ["pot", "old", "new", "costs", "odd", "calls", "told", "shown", "call"], ["pot"], [], true⟩
def dt57 : DT := ⟨("law", none), "law", "law", defArgs (top 70), defBody (top 70), defScope (top 70), ["script"], ["script"], [], false⟩
theorem t56 : T.dt.get 56 = some dt56 := by kernel_rfl
theorem t57 : T.dt.get 57 = some dt57 := by kernel_rfl
theorem a56 : prog.dfns.get 56 = some d56 := by kernel_rfl
theorem pl57 : Plain prog 57 1 1 (lawB 56 61) d57 := ⟨by kernel_rfl, rfl, rfl, rfl, rfl, rfl⟩
theorem pl51 : Plain prog 51 2 3 potB d51 := ⟨by kernel_rfl, rfl, rfl, rfl, rfl, rfl⟩
theorem pl52 : Plain prog 52 2 3 drawB d52 := ⟨by kernel_rfl, rfl, rfl, rfl, rfl, rfl⟩
theorem pl53 : Plain prog 53 2 2 (pickB 57) d53 := ⟨by kernel_rfl, rfl, rfl, rfl, rfl, rfl⟩
theorem g56 : prog.globs.get 56 = some (.fn 51) := by kernel_rfl
theorem g57 : prog.globs.get 57 = some (.fn 52) := by kernel_rfl
theorem g58 : prog.globs.get 58 = some (.fn 53) := by kernel_rfl
theorem g61 : prog.globs.get 61 = some (.fn 56) := by kernel_rfl
theorem g62 : prog.globs.get 62 = some (.fn 57) := by kernel_rfl
def ck : Ck := ⟨dt56.N, dt56.scope, true, true, true⟩
def sts (i n : Nat) : List Stmt := (dt56.body.drop i).take n
def q1 : ISs := .cons (.asg (.name 4) (.call 58 a1)) s1
def q2 : ISs := .cons (.asg (.name 4) (.call 58 a2)) s2
def q3 : ISs := .cons (.asg (.name 4) (.call 58 a3)) s3
def q4 : ISs := .cons (.asg (.name 4) (.call 58 a4)) s4
theorem ck0 : chkSs bs 400 ck s0 (sts 0 1) = true := by kernel_rfl
theorem ckA : chkSs bs 400 ck q1 (sts 1 3) = true := by kernel_rfl
theorem ckB : chkSs bs 400 ck q2 (sts 4 3) = true := by kernel_rfl
theorem ckC : chkSs bs 400 ck q3 (sts 7 2) = true := by kernel_rfl
theorem ckD : chkSs bs 400 ck q4 (sts 9 2) = true := by kernel_rfl
theorem ckL : chkSs bs 400 ck sL (sts 11 4) = true := by kernel_rfl
theorem text : textB T = true := by kernel_rfl
def parts : List (ISs × List Stmt) := [(q1, sts 1 3), (q2, sts 4 3), (q3, sts 7 2), (q4, sts 9 2)]
theorem body_eq : dt56.body = sts 0 1 ++ (parts.flatMap (·.2) ++ sts 11 4) := by kernel_rfl
theorem nx (a : IEs) (s : ISs) (h : ∀ x y x' y', secOk prog C0 a s ps frc x y x' y' = true) (x y : Int) : nxOk ps frc (evalSs prog C0 (.cons (.asg (.name 4) (.call 58 a)) s) frc (small_ ps x y)) = true := sec_ok (n := NN) pl52 pl53 g57 g58 rfl h x y
theorem parts_ok : ∀ p ∈ parts, chkSs bs 400 ck p.1 p.2 = true ∧ ∀ x y, nxOk ps frc (evalSs prog C0 p.1 frc (small_ ps x y)) = true := by
  intro p hp
  rcases List.mem_cons.mp hp with rfl | hp
  · exact ⟨ckA, nx a1 s1 p1⟩
  rcases List.mem_cons.mp hp with rfl | hp
  · exact ⟨ckB, nx a2 s2 p2⟩
  rcases List.mem_cons.mp hp with rfl | hp
  · exact ⟨ckC, nx a3 s3 p3⟩
  rcases List.mem_cons.mp hp with rfl | hp
  · exact ⟨ckD, nx a4 s4 p4⟩
  cases hp
section
variable {tl : List (Addr × Str)} {K : PySem.W.Frag} {base : Heap} {P : Program} {w : World} {mg : Str → Option Value}
theorem right_body (G : Tx T K tl P mg base) (x y : Int) (X : Cx) (W : WX) (own : List Nat) (h1 : X.prog = P) (h2 : X.w = w) (h3 : X.K = K) (h4 : X.mg = mg) (h5 : X.base = base) (cx : CxOk T tl (2 * (NN + 2) + 1) X W dt56.N dt56.scope true true dt56.lb) (ρ : List Addr) (H : Hp) (σ : L2.St)
    (R : HR T X.K tl own ρ (defStart d56.cells ([.v (.obj 0)] ++ List.replicate (d56.ns - 1) .n) (ofL [.lst [.int x, .int y]])).2 H) (Ev : EnvR T X own ρ (defStart d56.cells ([.v (.obj 0)] ++ List.replicate (d56.ns - 1) .n) (ofL [.lst [.int x, .int y]])).2 H (defStart d56.cells ([.v (.obj 0)] ++ List.replicate (d56.ns - 1) .n) (ofL [.lst [.int x, .int y]])).1 σ) : ∃ t, QSs X dt56.body t ∧ t (yesD tl) σ H := by
  subst h1 h2 h3 h4 h5
  have CO : CallsOk T X.K tl X.prog X.w X.mg X.base (callD T.P (NN + 2)) (2 * (NN + 2)) := calls_ok G (NN + 2)
  exact yes_body (T := T) (C := C0) (k := 2 * (NN + 2)) (f := 400) (ck := ck) (W := W) (fun d L => Iff.mpr (G.lt d L)) ⟨CO, cx⟩ cx.calm (ps := ps) (frc := frc) (by show (5 : Nat) ≤ 10; omega) ck0 (p0 x y) ckL pL parts_ok R Ev body_eq
end
theorem tells_law (w : World) (K : PySem.W.Frag) (mg : Str → Option Value) (fa : Addr) (h base : Heap) (KX : K.In h) (hns : h.Ns mainGlobals mg) (C : Tells T R.prog h K) (hm : mg (HandSHeadRun.topDef R.prog 70).name = some (.ref fa)) (b1 : K.In base) (b2 : base.Ns mainGlobals mg) (b3 : ∀ Dt ∈ tfs T, LamX.TabB base mg (He.cT K Dt.at_).1 (He.cT K Dt.at_).2) : LawDoes T K R.prog w mg base 68 63 fa := by
  have G : Tx T K (tlOf T K) R.prog mg base := tx_ok text C.says (fun d L => Iff.rfl) KX hns b3
  obtain ⟨Dt, x, e1, e2, e3, e4, _⟩ := G.gx.fn 62 57 g62
  rw [t57] at e1
  cases e1
  have e5 : x = "law" := by
    have := (Prod.mk.inj e3).1
    exact this.symm
  subst e5
  have e6 : (HandSHeadRun.topDef R.prog 70).name = ("law" : Str) := by kernel_rfl
  rw [e6, e4] at hm
  have e7 : He.fAd K dt57.at_ = fa := Value.ref.inj (Option.some.inj hm)
  rw [← e7]
  exact law_does (m := NN + 2) (n := 63) (mg := mg) (base := base) G pl57 t57 pl51 a56 t56 rfl rfl rfl rfl g56 g61 rfl (fun x y X W own h1 h2 h3 h4 h5 cx => right_body G x y X W own h1 h2 h3 h4 h5 cx)
end K90
open PySem PySem.W PySem.Calls PyProof.Rows
theorem PySem.Challenge.cw_mixeddiffs_k90_fronts_refused_and_named_holds : PySem.Challenge.rw_mixeddiffs_k90_fronts_refused_and_named.Holds := by
  w_on; o_law
  refine HandSHeadRun.head_any (r := K90.R) (q := K90.qv) (H := K90.hk) (ob := Py.obP 5 K90.T K90.R.prog) (M := 6000) (loose := K90.loose1 ++ K90.loose2) (d := HandSHeadRun.topDef K90.R.prog 70) (kwd := []) (Py.obP_eq 5 K90.T K90.R.prog)
    (by kernel_rfl) (fun s => by kernel_rfl) K90.run (by kernel_rfl) (by kernel_rfl) (by kernel_rfl) (by rfl) (by first | assumption | decide +kernel) (by decide +kernel) ⟨rfl, rfl, rfl, rfl, rfl, by decide +kernel⟩ ?hw ?hc
  case hw => w_witness2
  case hc =>
    exact Py.walk_end (l := PySem.Challenge.rw_mixeddiffs_k90_fronts_refused_and_named) (n := 63) (k := 68) rfl (by decide) (by kernel_rfl) ⟨rfl, by decide, by decide⟩ K90.tells_law
