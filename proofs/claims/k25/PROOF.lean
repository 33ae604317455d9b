import PyProof.Rows.All
import Wide.All
import OpenK.AllK
import Wide.FinOn
import HandS.ForMost
import HandS.ForExc
import HandS.More
import HandS.Defaults
import HandS.HeadHook2
import HandS.Deep
import HandS.IsInst
import HandS.TupLe
import HandS.ExcInit
import HandS.TryMany
import HandS.CallSlots
import HandS.ClsMeth
import HandS.Comp
import HandS.Small
import HandS.WordsDict
import HandS.HeadEnd
import KE.KStateDown
import HandS.Head0
import HandS.Head1
import HandS.Head2
import PySem.Challenge.RW_twocabins_k25_whole_rung_again_heard_twi
set_option Elab.async false
/-! L3A: a small language of programs over a logical heap: values, objects, an evaluator that is generic in its answers. -/
set_option autoImplicit false
set_option linter.all false
namespace L3

/-- a text, by its code points -/
abbrev S := List Nat

inductive LV where
  | non | bl (b : Bool) | int (i : Int) | str (s : S) | ref (n : Nat) | gl (n : Nat)
  deriving DecidableEq, Inhabited

inductive LO where
  | lst (xs : List LV) | tup (xs : List LV) | dic (kvs : List (LV × LV)) | ins (c : Nat) (fs : List (Nat × LV)) | xd (fs : List (Nat × LV)) | rol (ns : List Int) | box (m : Nat) | gone
  deriving DecidableEq, Inhabited

/-- the newest object first -/
structure LH where
  n : Nat
  os : List LO
  /-- draws that may still be made -/
  c : Nat := 0
  deriving DecidableEq, Inhabited

def LH.get (h : LH) (a : Nat) : Option LO := bif Nat.blt a h.n then h.os[h.n - 1 - a]? else none
def LH.put (h : LH) (o : LO) : LH := ⟨h.n + 1, o :: h.os, h.c⟩
def LH.set (h : LH) (a : Nat) (o : LO) : LH := ⟨h.n, h.os.set (h.n - 1 - a) o, h.c⟩
def LH.wc (h : LH) (c : Nat) : LH := ⟨h.n, h.os, c⟩

abbrev St := List (Option LV)

/-- built-in classes, own classes by number -/
inductive Ty where
  | int | bool | str | list | tuple | dict | own (c : Nat)
  deriving DecidableEq

inductive P where
  | add | sub | mul | fdiv | mod | pow | neg | not
  | eq | ne | lt | le | gt | ge | isN | notN | isB | notB | inn | notin
  | ix | sl11 | sl10 | sl01 | sl00
  | len | min2 | max2 | min1 | max1 | sum | all | any | int | str | repr | list | tuple | sorted | set
  | isi (ts : List Ty)
  | append | extend | pop0 | pop1 | reverse | clear | remove | index | insert
  | get1 | get2 | dpop1 | dpop2 | values
  | startswith | split | join | upper | find
  | tup | lst | dct
  | fld (f : Nat)
  | setix | setfld (f : Nat)
  deriving DecidableEq

/-- what a built-in method is read off: a list, a dict, a text -/
inductive Bk where
  | lst | dic | str
  deriving DecidableEq

mutual
inductive IE where
  | var (i : Nat) | con (v : LV)
  | prim (p : P) (as : IEs)
  | and (a b : IE) | or (a b : IE) | ife (t a b : IE)
  | chain (p q : P) (a b c : IE)
  | call (f : Nat) (as : IEs) (d : List LV)
  | meth (m : Nat) (o : IE) (as : IEs)
  | bmeth (b : Bk) (p : P) (o : IE) (as : IEs)
  | make (c : Nat) (as : IEs) (d : List LV)
  | comp (own : List Nat) (g : IG) (it : II) (t : IE) (elt : IE)
  | exf (f : Nat)
  | bad
inductive IEs where
  | nil | cons (e : IE) (es : IEs)
/-- what is walked -/
inductive II where
  | seq (e : IE) | rng1 (a : IE) | rng2 (a b : IE) | enum (e : IE) | zip (a b : IE)
/-- a target -/
inductive IG where
  | name (i : Nat) | drop (i : Nat) | tup (gs : IGs) | sub (o i : IE) | fld (o : IE) (f : Nat)
inductive IGs where
  | nil | cons (g : IG) (gs : IGs)
end

/-- how many -/
def IEs.len : IEs → Nat
  | .nil => 0
  | .cons _ es => es.len + 1
def IGs.len : IGs → Nat
  | .nil => 0
  | .cons _ es => es.len + 1

mutual
inductive IS where
  | pass | brk | cnt | retN | ret (e : IE) | expr (e : IE) | asg (g : IG) (e : IE)
  | par (is : List Nat) (es : IEs)
  | aug (i : Nat) (e : IE) | augf (o : IE) (f : Nat) (p : P) (e : IE) | augs (o i : IE) (p : P) (e : IE)
  | ite (t : IE) (a b : ISs)
  | whl (dead : List Nat) (m : Nat) (t : IE) (b : ISs)
  | for_ (dead : List Nat) (g : IG) (it : II) (b : ISs)
  | rais (c f : Nat) (e : IE)
  | try_ (b : ISs) (hs : IHs)
  | bad
inductive ISs where
  | nil | cons (s : IS) (ss : ISs)
inductive IHs where
  | nil | cons (cs : List Nat) (nm : Option Nat) (b : ISs) (hs : IHs)
end

/-- an exception of the class c, its dict at d; or what this language has no word for -/
inductive XO where
  | exc (c d : Nat) (h : LH) | bad
inductive SO where
  | nxt (σ : St) (h : LH) | brk (σ : St) (h : LH) | cnt (σ : St) (h : LH) | ret (v : LV) (h : LH) | exc (c d : Nat) (σ : St) (h : LH) | bad

/-! ### data -/
inductive D where
  | non | bl (b : Bool) | int (i : Int) | str (s : S) | lst (ds : List D) | tup (ds : List D)

def mapO {α β : Type} (f : α → Option β) : List α → Option (List β)
  | [] => some []
  | x :: xs => match f x with
    | none => none
    | some y => match mapO f xs with
      | none => none
      | some ys => some (y :: ys)

def strOk (s : S) : Bool := s.all fun c => Nat.blt c 55296

/-- what a value tells as data, at most n deep -/
def dat : Nat → LH → LV → Option D
  | 0, _, v => match v with
    | .non => some .non | .bl b => some (.bl b) | .int i => some (.int i)
    | .str s => bif strOk s then some (.str s) else none
    | _ => none
  | n + 1, h, v => match v with
    | .non => some .non | .bl b => some (.bl b) | .int i => some (.int i)
    | .str s => bif strOk s then some (.str s) else none
    | .ref a => match h.get a with
      | some (.lst xs) => (mapO (dat n h) xs).map .lst
      | some (.tup xs) => (mapO (dat n h) xs).map .tup
      | _ => none
    | .gl _ => none

mutual
def D.eqv : D → D → Bool
  | .non, .non => true
  | .bl a, .bl b => a == b
  | .bl a, .int j => (bif a then 1 else 0) == j
  | .int i, .bl b => i == (bif b then 1 else 0)
  | .int i, .int j => i == j
  | .str x, .str y => x == y
  | .lst xs, .lst ys => D.eqvs xs ys
  | .tup xs, .tup ys => D.eqvs xs ys
  | _, _ => false
def D.eqvs : List D → List D → Bool
  | [], [] => true
  | x :: xs, y :: ys => D.eqv x y && D.eqvs xs ys
  | _, _ => false
end

/-- == of two values: of flat ones by themselves, else of data -/
def eqLV (h : LH) (x y : LV) : Option Bool := match x, y with
  | .non, .non => some true
  | .int i, .int j => some (decide (i = j))
  | .bl i, .bl j => some (decide (i = j))
  | .str i, .str j => some (decide (i = j))
  | x, y => match dat 20 h x, dat 20 h y with
    | some a, some b => some (D.eqv a b)
    | _, _ => none

def flat : LV → Bool
  | .non | .bl _ | .int _ | .str _ => true
  | _ => false
/-- == of two flat values, as Python has it -/
def eqF : LV → LV → Bool
  | .non, .non => true
  | .bl a, .bl b => a == b
  | .bl a, .int j => (bif a then 1 else 0) == j
  | .int i, .bl b => i == (bif b then 1 else 0)
  | .int i, .int j => decide (i = j)
  | .str a, .str b => decide (a = b)
  | _, _ => false

/-! ### the primitives -/
def okn (v : LV) (h : LH) : Option (LV × LH) := some (v, h)

def ixN (n : Nat) (i : Int) : Option Nat := bif decide (0 ≤ i) then (bif decide (i < n) then some i.toNat else none) else bif decide (-(n : Int) ≤ i) then some (i + n).toNat else none
def atI {α : Type} (xs : List α) (i : Int) : Option α := match ixN xs.length i with
  | some j => xs[j]?
  | none => none

def putF (f : Nat) (v : LV) : List (Nat × LV) → List (Nat × LV)
  | [] => [(f, v)]
  | (g, w) :: r => bif Nat.beq g f then (g, v) :: r else (g, w) :: putF f v r
def getF (f : Nat) : List (Nat × LV) → Option LV
  | [] => none
  | (g, w) :: r => bif Nat.beq g f then some w else getF f r

def keyOk : LV → Bool
  | .int _ | .str _ => true
  | _ => false
def getD (k : LV) : List (LV × LV) → Option LV
  | [] => none
  | (j, w) :: r => bif decide (j = k) then some w else getD k r
def putD (k v : LV) : List (LV × LV) → List (LV × LV)
  | [] => [(k, v)]
  | (j, w) :: r => bif decide (j = k) then (j, v) :: r else (j, w) :: putD k v r
def dropD (k : LV) : List (LV × LV) → List (LV × LV)
  | [] => []
  | (j, w) :: r => bif decide (j = k) then r else (j, w) :: dropD k r

def small (i : Int) : Bool := decide (-(2 ^ 64) < i) && decide (i < 2 ^ 64)

/-- constants of the program's top that are read: what stands at a global name -/
structure Tab where
  /-- the names of globals, of fields, of methods -/
  gn : Nat → PySem.Str
  fn : Nat → PySem.Str
  mn : Nat → PySem.Str
  /-- the class with a number: its global's number -/
  cg : Nat → Nat
  /-- a class's method: the function's number -/
  mth : Nat → Nat → Option Nat
  /-- a class's __init__ -/
  ini : Nat → Option Nat
  /-- an exception of the one class is of the other -/
  sub : Nat → Nat → Bool
  /-- an exception's class: the name of its field -/
  xf : Nat → Nat
  /-- own classes that are told of -/
  okc : Nat → Bool
  /-- a global's object: a tuple of flat values -/
  gt : Nat → Option (List LV)

def line : Nat := 1000000
def fits (n : Nat) : Bool := Nat.ble n line

/-- the items of a list or a tuple -/
def seqOf (T : Tab) (h : LH) : LV → Option (List LV)
  | .ref a => match h.get a with
    | some (.lst xs) => some xs
    | some (.tup xs) => some xs
    | some (.rol ns) => some (ns.map .int)
    | _ => none
  | .gl i => T.gt i
  | _ => none
def seqL (h : LH) : LV → Option (List LV)
  | .ref a => match h.get a with
    | some (.lst xs) => some xs
    | some (.rol ns) => some (ns.map .int)
    | _ => none
  | _ => none
def seqT (T : Tab) (h : LH) : LV → Option (List LV)
  | .ref a => match h.get a with
    | some (.tup xs) => some xs
    | _ => none
  | .gl i => T.gt i
  | _ => none
def lenOf (T : Tab) (h : LH) : LV → Option Nat
  | .ref a => match h.get a with
    | some (.lst xs) => some xs.length
    | some (.tup xs) => some xs.length
    | some (.dic kvs) => some kvs.length
    | some (.rol ns) => some ns.length
    | _ => none
  | .gl i => match T.gt i with
    | some xs => some xs.length
    | none => none
  | .str s => bif fits s.length then some s.length else none
  | _ => none

/-- the types of values: of a built-in class, of an own one -/
inductive Vt where
  | non | ty (t : Ty)
def vtSub (T : Tab) : Vt → Ty → Bool
  | .ty (.own d), .own c => T.sub d c
  | .ty .bool, .int => true
  | .ty .int, .int => true | .ty .bool, .bool => true | .ty .str, .str => true | .ty .list, .list => true | .ty .tuple, .tuple => true | .ty .dict, .dict => true
  | _, _ => false
/-- what a value's class is -/
def vtOf (h : LH) : LV → Option Vt
  | .non => some .non
  | .bl _ => some (.ty .bool)
  | .int _ => some (.ty .int)
  | .str _ => some (.ty .str)
  | .ref a => match h.get a with
    | some (.lst _) => some (.ty .list)
    | some (.tup _) => some (.ty .tuple)
    | some (.dic _) => some (.ty .dict)
    | some (.ins c _) => some (.ty (.own c))
    | _ => none
  | .gl _ => none
def isOne (T : Tab) (h : LH) (v : LV) (ts : List Ty) : Option Bool := match vtOf h v with
  | some t => some (ts.any (vtSub T t))
  | none => none
def isBk (h : LH) (b : Bk) : LV → Bool
  | .str _ => decide (b = .str)
  | .ref a => match h.get a with
    | some (.lst _) => decide (b = .lst)
    | some (.dic _) => decide (b = .dic)
    | _ => false
  | _ => false

def inL (x : LV) : List LV → Option Bool
  | [] => some false
  | y :: ys => bif flat y then (bif eqF y x then (match inL x ys with | some _ => some true | none => none) else inL x ys) else none

def bin (T : Tab) (p : P) (x y : LV) (h : LH) : Option (LV × LH) := match p with
  | .add => match x, y with
    | .int i, .int j => okn (.int (i + j)) h
    | .str a, .str b => bif fits (a.length + b.length) then okn (.str (a ++ b)) h else none
    | .ref a, .ref b => match h.get a, h.get b with
      | some (.lst xs), some (.lst ys) => bif fits (xs.length + ys.length) then okn (.ref h.n) (h.put (.lst (xs ++ ys))) else none
      | _, _ => none
    | _, _ => none
  | .sub => match x, y with
    | .int i, .int j => okn (.int (i - j)) h
    | _, _ => none
  | .mul => match x, y with
    | .int i, .int j => bif small i || small j then okn (.int (i * j)) h else none
    | .ref a, .int k => match h.get a with
      | some (.lst xs) => bif decide (0 ≤ k) && decide (k ≤ 1000) && fits (xs.length * k.toNat) then okn (.ref h.n) (h.put (.lst (List.replicate k.toNat xs).flatten)) else none
      | _ => none
    | _, _ => none
  | .fdiv => match x, y with
    | .int i, .int j => bif decide (0 < j) && decide (j < 1073741824) then okn (.int (i / j)) h else none
    | _, _ => none
  | .mod => match x, y with
    | .int i, .int j => bif decide (0 < j) then okn (.int (i % j)) h else none
    | _, _ => none
  | .pow => match x, y with
    | .int i, .int j => bif decide (0 ≤ j) && decide (j ≤ 1000000) && Nat.blt i.natAbs (2 ^ 64) then okn (.int (i ^ j.toNat)) h else none
    | _, _ => none
  | .eq => match eqLV h x y with
    | some b => okn (.bl b) h
    | none => none
  | .ne => match eqLV h x y with
    | some b => okn (.bl (!b)) h
    | none => none
  | .lt => match x, y with
    | .int i, .int j => okn (.bl (decide (i < j))) h
    | _, _ => none
  | .le => match x, y with
    | .int i, .int j => okn (.bl (decide (i ≤ j))) h
    | _, _ => none
  | .gt => match x, y with
    | .int i, .int j => okn (.bl (decide (j < i))) h
    | _, _ => none
  | .ge => match x, y with
    | .int i, .int j => okn (.bl (decide (j ≤ i))) h
    | _, _ => none
  | .isB => match x, y with
    | .bl a, .bl b => okn (.bl (decide (a = b))) h
    | _, _ => none
  | .notB => match x, y with
    | .bl a, .bl b => okn (.bl (!decide (a = b))) h
    | _, _ => none
  | .inn => bif flat x then (match seqOf T h y with
    | some ys => match inL x ys with
      | some b => okn (.bl b) h
      | none => none
    | none => none) else none
  | .notin => bif flat x then (match seqOf T h y with
    | some ys => match inL x ys with
      | some b => okn (.bl (!b)) h
      | none => none
    | none => none) else none
  | .ix => match y with
    | .int i => match x with
      | .str s => bif fits s.length then (match atI s i with
        | some c => okn (.str [c]) h
        | none => none) else none
      | .ref a => match h.get a with
        | some (.dic kvs) => match getD (.int i) kvs with
          | some v => okn v h
          | none => none
        | _ => match seqOf T h x with
          | some xs => match atI xs i with
            | some v => okn v h
            | none => none
          | none => none
      | x => match seqOf T h x with
        | some xs => match atI xs i with
          | some v => okn v h
          | none => none
        | none => none
    | .str k => match x with
      | .ref a => match h.get a with
        | some (.dic kvs) => match getD (.str k) kvs with
          | some v => okn v h
          | none => none
        | _ => none
      | _ => none
    | _ => none
  | .min2 => match x, y with
    | .int i, .int j => okn (.int (min i j)) h
    | _, _ => none
  | .max2 => match x, y with
    | .int i, .int j => okn (.int (max i j)) h
    | _, _ => none
  | .append => match x with
    | .ref a => match h.get a with
      | some (.lst xs) => bif fits xs.length then okn .non (h.set a (.lst (xs ++ [y]))) else none
      | _ => none
    | _ => none
  | .get1 => match x with
    | .ref a => match h.get a with
      | some (.dic kvs) => bif keyOk y then okn ((getD y kvs).getD .non) h else none
      | _ => none
    | _ => none
  | _ => none

def un (T : Tab) (p : P) (x : LV) (h : LH) : Option (LV × LH) := match p with
  | .neg => match x with
    | .int i => okn (.int (-i)) h
    | _ => none
  | .not => match x with
    | .bl b => okn (.bl (!b)) h
    | _ => none
  | .isN => okn (.bl (decide (x = .non))) h
  | .notN => okn (.bl (!decide (x = .non))) h
  | .len => match lenOf T h x with
    | some n => okn (.int n) h
    | none => none
  | .int => match x with
    | .bl b => okn (.int (bif b then 1 else 0)) h
    | .int i => okn (.int i) h
    | _ => none
  | .list => match seqOf T h x with
    | some xs => bif fits xs.length then okn (.ref h.n) (h.put (.lst xs)) else none
    | none => none
  | .isi ts => match isOne T h x ts with
    | some b => okn (.bl b) h
    | none => none
  | .fld f => match x with
    | .ref a => match h.get a with
      | some (.ins _ fs) => match getF f fs with
        | some v => okn v h
        | none => none
      | _ => none
    | _ => none
  | _ => none

def mkD : List LV → List (LV × LV) → Option (List (LV × LV))
  | [], acc => some acc
  | k :: v :: r, acc => bif keyOk k then mkD r (putD k v acc) else none
  | _, _ => none

def prim (T : Tab) (p : P) (vs : List LV) (h : LH) : Option (LV × LH) := match p with
  | .tup => bif fits vs.length then okn (.ref h.n) (h.put (.tup vs)) else none
  | .lst => bif fits vs.length then okn (.ref h.n) (h.put (.lst vs)) else none
  | .dct => bif Nat.ble vs.length 30 then (match mkD vs [] with
    | some kvs => okn (.ref h.n) (h.put (.dic kvs))
    | none => none) else none
  | .get2 => match vs with
    | [.ref a, k, d] => match h.get a with
      | some (.dic kvs) => bif keyOk k then okn ((getD k kvs).getD d) h else none
      | _ => none
    | _ => none
  | p => match vs with
    | [x] => un T p x h
    | [x, y] => bin T p x y h
    | _ => none

/-! ### walks -/
inductive IT where
  | seq (v : LV) (l : Bool) | rng (lo : Int) (n : Nat)
inductive TR where
  | stop | bad | next (v : LV) (h : LH)
def turn (T : Tab) (it : IT) (i : Nat) (h : LH) : TR := match it with
  | .seq v l => match (bif l then seqL h v else seqT T h v) with
    | some xs => match xs[i]? with
      | some x => .next x h
      | none => .stop
    | none => .bad
  | .rng lo n => bif Nat.blt i n then .next (.int (lo + i)) h else .stop
def bound (T : Tab) (it : IT) (h : LH) : Nat := match it with
  | .seq v l => match (bif l then seqL h v else seqT T h v) with
    | some xs => xs.length
    | none => 0
  | .rng _ n => n

def wipe (σ : St) : List Nat → St
  | [] => σ
  | v :: vs => (wipe σ vs).set v none

/-! ### the evaluator -/
structure Hd (R : Type) where
  T : Tab
  call : Nat → List LV → LH → (LV → LH → R) → (XO → R) → R
  /-- at the end of a loop's turn: what is above the base and no longer wanted may go -/
  gc : Nat → (St → LH → R) → St → LH → R

section
variable {R : Type} (D : Hd R)

/-- a loop over what is walked -/
def forR (dead : List Nat) (it : IT) (b : Nat) (g : LV → St → LH → (St → LH → R) → (XO → R) → R) (body : St → LH → (SO → R) → R) : Nat → Nat → St → LH → (SO → R) → R
  | m, i, σ, h, k => match turn D.T it i h with
    | .stop => k (.nxt σ h)
    | .bad => k .bad
    | .next x h1 => match m with
      | 0 => k .bad
      | m + 1 => g x σ h1 (fun σ2 h2 => body σ2 h2 fun o => match o with
          | .nxt σ3 h3 => D.gc b (fun σ4 h4 => forR dead it b g body m (i + 1) σ4 h4 k) (wipe σ3 dead) h3
          | .cnt σ3 h3 => D.gc b (fun σ4 h4 => forR dead it b g body m (i + 1) σ4 h4 k) (wipe σ3 dead) h3
          | .brk σ3 h3 => k (.nxt σ3 h3)
          | o => k o) (fun o => match o with
          | .exc c d h' => k (.exc c d σ h')
          | .bad => k .bad)

/-- a while -/
def whlR (dead : List Nat) (b : Nat) (t : St → LH → (LV → LH → R) → (XO → R) → R) (body : St → LH → (SO → R) → R) : Nat → St → LH → (SO → R) → R
  | m, σ, h, k => t σ h (fun v h1 => match v with
      | .bl false => k (.nxt σ h1)
      | .bl true => (match m with
        | 0 => k .bad
        | m + 1 => body σ h1 fun o => match o with
          | .nxt σ3 h3 => D.gc b (fun σ4 h4 => whlR dead b t body m σ4 h4 k) (wipe σ3 dead) h3
          | .cnt σ3 h3 => D.gc b (fun σ4 h4 => whlR dead b t body m σ4 h4 k) (wipe σ3 dead) h3
          | .brk σ3 h3 => k (.nxt σ3 h3)
          | o => k o)
      | _ => k .bad) (fun o => match o with
          | .exc c d h' => k (.exc c d σ h')
          | .bad => k .bad)

/-- a list comprehension's loop: the list grows at a -/
def lcR (it : IT) (a : Nat) (σ0 : St) (g : LV → St → LH → (St → LH → R) → (XO → R) → R) (t elt : St → LH → (LV → LH → R) → (XO → R) → R) : Nat → Nat → LH → (LV → LH → R) → (XO → R) → R
  | m, i, h, k, x => match turn D.T it i h with
    | .stop => k (.ref a) h
    | .bad => x .bad
    | .next v h1 => match m with
      | 0 => x .bad
      | m + 1 => g v σ0 h1 (fun σ2 h2 => t σ2 h2 (fun b h3 => match b with
          | .bl true => elt σ2 h3 (fun y h4 => match h4.get a with
            | some (.lst acc) => bif fits acc.length then lcR it a σ0 g t elt m (i + 1) (h4.set a (.lst (acc ++ [y]))) k x else x .bad
            | _ => x .bad) x
          | .bl false => lcR it a σ0 g t elt m (i + 1) h3 k x
          | _ => x .bad) x) x

mutual
def rE : IE → St → LH → (LV → LH → R) → (XO → R) → R
  | .var i, σ, h, k, x => match σ[i]? with
    | some (some v) => k v h
    | _ => x .bad
  | .con v, _, h, k, _ => k v h
  | .prim p as, σ, h, k, x => rEs as σ h (fun vs h1 => match prim D.T p vs h1 with
    | some (v, h2) => k v h2
    | none => x .bad) x
  | .and a b, σ, h, k, x => rE a σ h (fun v h1 => match v with
    | .bl true => rE b σ h1 k x
    | .bl false => k (.bl false) h1
    | _ => x .bad) x
  | .or a b, σ, h, k, x => rE a σ h (fun v h1 => match v with
    | .bl true => k (.bl true) h1
    | .bl false => rE b σ h1 k x
    | _ => x .bad) x
  | .ife t a b, σ, h, k, x => rE t σ h (fun v h1 => match v with
    | .bl true => rE a σ h1 k x
    | .bl false => rE b σ h1 k x
    | _ => x .bad) x
  | .chain p q a b c, σ, h, k, x => rE a σ h (fun u h1 => rE b σ h1 (fun v h2 => match bin D.T p u v h2 with
    | some (.bl true, h3) => rE c σ h3 (fun w h4 => match bin D.T q v w h4 with
      | some (z, h5) => k z h5
      | none => x .bad) x
    | some (.bl false, h3) => k (.bl false) h3
    | _ => x .bad) x) x
  | .call f as d, σ, h, k, x => rEs as σ h (fun vs h1 => D.call f (vs ++ d) h1 k x) x
  | .meth m o as, σ, h, k, x => rE o σ h (fun v h1 => match v with
    | .ref a => match h1.get a with
      | some (.ins c _) => match D.T.mth c m with
        | some f => rEs as σ h1 (fun vs h2 => D.call f (.ref a :: vs) h2 k x) x
        | none => x .bad
      | _ => x .bad
    | _ => x .bad) x
  | .bmeth b p o as, σ, h, k, x => rE o σ h (fun v h1 => bif isBk h1 b v then rEs as σ h1 (fun vs h2 => match prim D.T p (v :: vs) h2 with
    | some (z, h3) => k z h3
    | none => x .bad) x else x .bad) x
  | .make c as d, σ, h, k, x => rEs as σ h (fun vs h1 => match D.T.ini c with
    | some f => D.call f (.ref h1.n :: (vs ++ d)) (h1.put (.ins c [])) (fun v h2 => match v with
      | .non => k (.ref h1.n) h2
      | _ => x .bad) x
    | none => x .bad) x
  | .comp own g it t elt, σ, h, k, x => rI it σ h (fun j h1 =>
      lcR D j h1.n (wipe σ own) (rG g) (rE t) (rE elt) (bound D.T j h1) 0 (h1.put (.lst [])) k (fun _ => x .bad)) x
  | .exf _, _, _, _, x => x .bad
  | .bad, _, _, _, x => x .bad
def rEs : IEs → St → LH → (List LV → LH → R) → (XO → R) → R
  | .nil, _, h, k, _ => k [] h
  | .cons e es, σ, h, k, x => rE e σ h (fun v h1 => rEs es σ h1 (fun vs h2 => k (v :: vs) h2) x) x
def rI : II → St → LH → (IT → LH → R) → (XO → R) → R
  | .seq e, σ, h, k, x => rE e σ h (fun v h1 => match seqL h1 v with
    | some _ => k (.seq v true) h1
    | none => match seqT D.T h1 v with
      | some _ => k (.seq v false) h1
      | none => x .bad) x
  | .rng1 a, σ, h, k, x => rE a σ h (fun v h1 => match v with
    | .int j => bif decide (-(2 ^ 62) ≤ j) && decide (j < 2 ^ 62) then k (.rng 0 j.toNat) h1 else x .bad
    | _ => x .bad) x
  | .rng2 a b, σ, h, k, x => rE a σ h (fun v h1 => rE b σ h1 (fun w h2 => match v, w with
    | .int i, .int j => bif (decide (-(2 ^ 62) ≤ i) && decide (i < 2 ^ 62)) && (decide (-(2 ^ 62) ≤ j) && decide (j < 2 ^ 62)) then k (.rng i (j - i).toNat) h2 else x .bad
    | _, _ => x .bad) x) x
  | .enum _, _, _, _, x => x .bad
  | .zip _ _, _, _, _, x => x .bad
def rG : IG → LV → St → LH → (St → LH → R) → (XO → R) → R
  | .name i, v, σ, h, k, _ => k (σ.set i (some v)) h
  | .drop i, _, σ, h, k, _ => k (σ.set i none) h
  | .tup gs, v, σ, h, k, x => match v with
    | .ref a => match h.get a with
      | some (.tup vs) => bif Nat.beq vs.length gs.len then rGs gs vs σ h k x else x .bad
      | _ => x .bad
    | _ => x .bad
  | .sub o i, v, σ, h, k, x => rE o σ h (fun u h1 => rE i σ h1 (fun w h2 => match u with
    | .ref a => match h2.get a with
      | some (.lst xs) => match w with
        | .int j => match ixN xs.length j with
          | some n => k σ (h2.set a (.lst (xs.set n v)))
          | none => x .bad
        | _ => x .bad
      | some (.dic kvs) => bif keyOk w && fits kvs.length then k σ (h2.set a (.dic (putD w v kvs))) else x .bad
      | _ => x .bad
    | _ => x .bad) x) x
  | .fld o f, v, σ, h, k, x => rE o σ h (fun u h1 => match u with
    | .ref a => match h1.get a with
      | some (.ins c fs) => bif Nat.blt fs.length 900 then k σ (h1.set a (.ins c (putF f v fs))) else x .bad
      | _ => x .bad
    | _ => x .bad) x
def rGs : IGs → List LV → St → LH → (St → LH → R) → (XO → R) → R
  | .nil, vs, σ, h, k, x => match vs with
    | [] => k σ h
    | _ => x .bad
  | .cons g gs, vs, σ, h, k, x => match vs with
    | v :: r => rG g v σ h (fun σ1 h1 => rGs gs r σ1 h1 k x) x
    | [] => x .bad
end

/-- an exception on the way out of an expression, at the slots σ -/
def xs (σ : St) (k : SO → R) : XO → R
  | .exc c d h => k (.exc c d σ h)
  | .bad => k .bad

def setAll (σ : St) : List Nat → List LV → St
  | i :: is, v :: vs => setAll (σ.set i (some v)) is vs
  | _, _ => σ

def caught (T : Tab) (c : Nat) : List Nat → Bool
  | [] => false
  | d :: ds => T.sub c d || caught T c ds

mutual
def rS : IS → St → LH → (SO → R) → R
  | .pass, σ, h, k => k (.nxt σ h)
  | .brk, σ, h, k => k (.brk σ h)
  | .cnt, σ, h, k => k (.cnt σ h)
  | .retN, _, h, k => k (.ret .non h)
  | .ret e, σ, h, k => rE D e σ h (fun v h1 => k (.ret v h1)) (xs σ k)
  | .expr e, σ, h, k => rE D e σ h (fun _ h1 => k (.nxt σ h1)) (xs σ k)
  | .asg g e, σ, h, k => rE D e σ h (fun v h1 => rG D g v σ h1 (fun σ2 h2 => k (.nxt σ2 h2)) (xs σ k)) (xs σ k)
  | .par is es, σ, h, k => rEs D es σ h (fun vs h1 => bif Nat.beq vs.length is.length then k (.nxt (setAll σ is vs) h1) else k .bad) (xs σ k)
  | .aug i e, σ, h, k => match σ[i]? with
    | some (some v) => rE D e σ h (fun w h1 => match v, w with
      | .int a, .int b => k (.nxt (σ.set i (some (.int (a + b)))) h1)
      | _, _ => k .bad) (xs σ k)
    | _ => k .bad
  | .augf _ _ _ _, _, _, k => k .bad
  | .augs _ _ _ _, _, _, k => k .bad
  | .ite t a b, σ, h, k => rE D t σ h (fun v h1 => match v with
    | .bl true => rSs a σ h1 k
    | .bl false => rSs b σ h1 k
    | _ => k .bad) (xs σ k)
  | .whl dead m t b, σ, h, k => whlR D dead h.n (rE D t) (rSs b) m σ h k
  | .for_ dead g it b, σ, h, k => rI D it σ h (fun j h1 => forR D dead j h1.n (rG D g) (rSs b) (bound D.T j h1) 0 σ h1 k) (xs σ k)
  | .rais c f e, σ, h, k => rE D e σ h (fun v h1 => k (.exc c h1.n σ (h1.put (.xd [(f, v)])))) (xs σ k)
  | .try_ b hs, σ, h, k => rSs b σ h fun o => match o with
    | .exc c d σ1 h1 => rHs hs c d σ1 h1 k
    | o => k o
  | .bad, _, _, k => k .bad
def rSs : ISs → St → LH → (SO → R) → R
  | .nil, σ, h, k => k (.nxt σ h)
  | .cons s ss, σ, h, k => rS s σ h fun o => match o with
    | .nxt σ1 h1 => rSs ss σ1 h1 k
    | o => k o
def rHs : IHs → Nat → Nat → St → LH → (SO → R) → R
  | .nil, c, d, σ, h, k => k (.exc c d σ h)
  | .cons cs _ b hs, c, d, σ, h, k => bif caught D.T c cs then rSs b σ h k else rHs hs c d σ h k
end
end

/-- a program's functions -/
structure Fn where
  np : Nat
  nn : Nat
  body : ISs
def start (f : Fn) (vs : List LV) : St := vs.map some ++ List.replicate (f.nn - vs.length) none

section
variable {R : Type}
/-- the end of a body: what the call hands back -/
def endS (k : LV → LH → R) (x : XO → R) : SO → R
  | .nxt _ h => k .non h
  | .ret v h => k v h
  | .exc c d _ h => x (.exc c d h)
  | _ => x .bad
def bodyR (D : Hd R) (f : Fn) (vs : List LV) (h : LH) (k : LV → LH → R) (x : XO → R) : R :=
  bif Nat.beq (vs.length) f.np then rSs D f.body (start f vs) h (endS k x) else x .bad
end
end L3

/-! L3B: what the logical heap says of the abstract heap; an expression's and a statement's reading by the evaluator. -/
set_option autoImplicit false
set_option linter.all false
set_option maxRecDepth 100000
namespace L3
open PySem PyProof.Rows L2

def toStr (s : S) : Str := ⟨s.toArray⟩
theorem toStr_inj {s t : S} (h : toStr s = toStr t) : s = t := by
  have := congrArg (fun x : Str => x.cps.toList) h
  simpa [toStr] using this

def inb (n : Nat) : LV → Prop
  | .ref a => a < n
  | _ => True
def vx (T : Tab) (K : PySem.W.Frag) (ρ : Nat → Addr) : LV → V
  | .non => .non
  | .bl b => .bl b
  | .int i => .int i
  | .str s => .str (toStr s)
  | .ref a => .ref (ρ a)
  | .gl i => .ref (He.ga K (T.gn i))
def kx : LV → Key
  | .int i => .inl i
  | .str s => .inr (toStr s)
  | _ => .inl 0
theorem kx_kV {T : Tab} {K : PySem.W.Frag} {ρ : Nat → Addr} {v : LV} (h : keyOk v = true) : kV (kx v) = vx T K ρ v := by
  cases v <;> first | rfl | cases h
theorem kx_inj {v w : LV} (hv : keyOk v = true) (hw : keyOk w = true) (h : kx v = kx w) : v = w := by
  cases v <;> cases hv <;> cases w <;> cases hw <;> simp only [kx] at h
  · exact congrArg LV.int (Sum.inl.inj h)
  · cases h
  · cases h
  · exact congrArg LV.str (toStr_inj (Sum.inr.inj h))

section
variable (T : Tab) (K : PySem.W.Frag)
/-- a box of draws: three numbers, the last one counts -/
def bxOk (c : Nat) : List Int → Prop
  | i :: j :: n :: _ => 0 ≤ j ∧ j < 2 ^ 31 ∧ 0 ≤ n ∧ n + c ≤ 2 ^ 40
  | _ => False
theorem bxOk_mono {c c' : Nat} (l : c' ≤ c) : ∀ {ns : List Int}, bxOk c ns → bxOk c' ns
  | i :: j :: n :: _, h => by
    obtain ⟨h1, h2, h3, h4⟩ := (show 0 ≤ j ∧ j < 2 ^ 31 ∧ 0 ≤ n ∧ n + (c : Int) ≤ 2 ^ 40 from h)
    exact (show 0 ≤ j ∧ j < 2 ^ 31 ∧ 0 ≤ n ∧ n + (c' : Int) ≤ 2 ^ 40 from ⟨h1, h2, h3, by omega⟩)
  | [], h => h.elim
  | [_], h => h.elim
  | [_, _], h => h.elim
def ro (ρ : Nat → Addr) (n c : Nat) : LO → HO → Prop
  | .lst xs, o => (∀ v ∈ xs, inb n v) ∧ xs.length ≤ 16000000 ∧ o = .lst (xs.map (vx T K ρ))
  | .tup xs, o => (∀ v ∈ xs, inb n v) ∧ xs.length ≤ 16000000 ∧ o = .tup (xs.map (vx T K ρ))
  | .dic kvs, o => ((∀ p ∈ kvs, keyOk p.1 = true ∧ inb n p.2) ∧ (kvs.map (·.1)).Nodup ∧ kvs.length ≤ 16000000) ∧ o = .dK (kvs.map fun p => (kx p.1, vx T K ρ p.2))
  | .ins c fs, o => (T.okc c = true ∧ ∀ p ∈ fs, inb n p.2) ∧ ∃ dx, o = .ins (He.ga K (T.gn (T.cg c))) dx (fs.map fun p => (T.fn p.1, vx T K ρ p.2))
  | .xd fs, o => (∀ p ∈ fs, inb n p.2) ∧ o = .xd (fs.map fun p => (T.fn p.1, vx T K ρ p.2))
  | .rol ns, o => ∃ ob, o = .frz ob (.lst (ns.map .int))
  | .box m, o => ∃ ns : List Int, ((ns.length = m ∧ ns.length ≤ 8) ∧ bxOk c ns) ∧ o = .lst (ns.map .int)
  | .gone, _ => True
structure Rep (ρ : Nat → Addr) (h : LH) (H : Hp) : Prop where
  len : h.os.length = h.n
  obj : ∀ a o, h.get a = some o → ∃ u, H (ρ a) = some u ∧ ro T K ρ h.n h.c o u
  inj : ∀ a b, a < h.n → b < h.n → ρ a = ρ b → a = b
end

/-! ### the logical heap -/
theorem get_def (h : LH) (a : Nat) : h.get a = if a < h.n then h.os[h.n - 1 - a]? else none := by
  unfold LH.get
  by_cases q : a < h.n
  · rw [show Nat.blt a h.n = true from Nat.ble_eq_true_of_le q, if_pos q]; rfl
  · rw [show Nat.blt a h.n = false from by
      cases e : Nat.blt a h.n with
      | false => rfl
      | true => exact absurd (Nat.le_of_ble_eq_true e) q, if_neg q]; rfl
theorem get_lt {h : LH} {a : Nat} {o : LO} (e : h.get a = some o) : a < h.n := by
  rw [get_def] at e
  split at e
  · assumption
  · cases e
theorem get_some {h : LH} {a : Nat} (hl : h.os.length = h.n) (q : a < h.n) : ∃ o, h.get a = some o := by
  rw [get_def, if_pos q]
  exact ⟨h.os[h.n - 1 - a]'(by omega), List.getElem?_eq_getElem _⟩
theorem put_n {h : LH} {o : LO} : (h.put o).n = h.n + 1 := rfl
theorem get_put_self {h : LH} {o : LO} : (h.put o).get h.n = some o := by
  rw [get_def, if_pos (by show h.n < h.n + 1; omega)]
  show (o :: h.os)[h.n + 1 - 1 - h.n]? = some o
  rw [show h.n + 1 - 1 - h.n = 0 from by omega]
  rfl
theorem get_put_old {h : LH} {o : LO} {a : Nat} (q : a < h.n) : (h.put o).get a = h.get a := by
  rw [get_def, get_def, if_pos (by show a < h.n + 1; omega), if_pos q]
  show (o :: h.os)[h.n + 1 - 1 - a]? = _
  rw [show h.n + 1 - 1 - a = (h.n - 1 - a) + 1 from by omega, List.getElem?_cons_succ]
theorem get_set_self {h : LH} {o : LO} {a : Nat} (hl : h.os.length = h.n) (q : a < h.n) : (h.set a o).get a = some o := by
  rw [get_def, if_pos (by show a < h.n; exact q)]
  show (h.os.set (h.n - 1 - a) o)[h.n - 1 - a]? = _
  rw [List.getElem?_set_self (by omega)]
theorem get_set_ne {h : LH} {o : LO} {a b : Nat} (hb : b ≠ a) (q : a < h.n) : (h.set a o).get b = h.get b := by
  rw [get_def, get_def]
  show (if b < h.n then (h.os.set (h.n - 1 - a) o)[h.n - 1 - b]? else none) = _
  by_cases e : b < h.n
  · rw [if_pos e, if_pos e, List.getElem?_set_ne (by omega)]
  · rw [if_neg e, if_neg e]

/-! ### steps of the heap -/
section
variable {T : Tab} {K : PySem.W.Frag}
def Ext (n : Nat) (ρ ρ' : Nat → Addr) : Prop := ∀ a, a < n → ρ' a = ρ a
theorem Ext.refl (n : Nat) (ρ : Nat → Addr) : Ext n ρ ρ := fun _ _ => rfl
theorem Ext.trans {n n' : Nat} {ρ ρ' ρ'' : Nat → Addr} (h : Ext n ρ ρ') (g : Ext n' ρ' ρ'') (l : n ≤ n') : Ext n ρ ρ'' := fun a q => (g a (Nat.lt_of_lt_of_le q l)).trans (h a q)
theorem vx_ext {n : Nat} {ρ ρ' : Nat → Addr} {v : LV} (h : Ext n ρ ρ') (q : inb n v) : vx T K ρ' v = vx T K ρ v := by
  cases v with
  | ref a => exact congrArg V.ref (h a q)
  | _ => rfl
theorem inb_mono {n n' : Nat} {v : LV} (q : inb n v) (l : n ≤ n') : inb n' v := by
  cases v with
  | ref a => exact Nat.lt_of_lt_of_le q l
  | _ => trivial
theorem map_ext {n : Nat} {ρ ρ' : Nat → Addr} {xs : List LV} (h : Ext n ρ ρ') (q : ∀ v ∈ xs, inb n v) : xs.map (vx T K ρ') = xs.map (vx T K ρ) :=
  List.map_congr_left fun v hv => vx_ext h (q v hv)
theorem ro_mono {n n' c c' : Nat} {ρ ρ' : Nat → Addr} {o : LO} {u : HO} (h : Ext n ρ ρ') (l : n ≤ n') (lc : c' ≤ c) (r : ro T K ρ n c o u) : ro T K ρ' n' c' o u := by
  cases o with
  | lst xs => obtain ⟨q, z, e⟩ := r; exact ⟨fun v hv => inb_mono (q v hv) l, z, by rw [map_ext h q]; exact e⟩
  | tup xs => obtain ⟨q, z, e⟩ := r; exact ⟨fun v hv => inb_mono (q v hv) l, z, by rw [map_ext h q]; exact e⟩
  | dic kvs =>
    obtain ⟨⟨q, nd⟩, e⟩ := r
    refine ⟨⟨fun p hp => ⟨(q p hp).1, inb_mono (q p hp).2 l⟩, nd⟩, e.trans ?_⟩
    exact congrArg HO.dK (List.map_congr_left fun p hp => by rw [vx_ext h (q p hp).2])
  | ins c fs =>
    obtain ⟨⟨oc, q⟩, dx, e⟩ := r
    refine ⟨⟨oc, fun p hp => inb_mono (q p hp) l⟩, dx, e.trans ?_⟩
    exact congrArg (HO.ins _ dx) (List.map_congr_left fun p hp => by rw [vx_ext h (q p hp)])
  | xd fs =>
    obtain ⟨q, e⟩ := r
    refine ⟨fun p hp => inb_mono (q p hp) l, e.trans ?_⟩
    exact congrArg HO.xd (List.map_congr_left fun p hp => by rw [vx_ext h (q p hp)])
  | rol ns => exact r
  | box m => obtain ⟨ns, ⟨h1, h2⟩, e⟩ := r; exact ⟨ns, ⟨h1, bxOk_mono lc h2⟩, e⟩
  | gone => trivial

structure Fr (ρ : Nat → Addr) (n : Nat) (H : Hp) (ρ' : Nat → Addr) (n' : Nat) (H' : Hp) : Prop where
  keep : ∀ b o, H b = some o → (∀ a, a < n → ρ a ≠ b) → H' b = some o
  new : ∀ a, a < n' → (∃ c, c < n ∧ ρ' a = ρ c) ∨ H (ρ' a) = none
theorem Fr.refl (ρ : Nat → Addr) (n : Nat) (H : Hp) : Fr ρ n H ρ n H := ⟨fun _ _ e _ => e, fun a q => .inl ⟨a, q, rfl⟩⟩
theorem Fr.trans {ρ ρ' ρ'' : Nat → Addr} {n n' n'' : Nat} {H H' H'' : Hp} (f : Fr ρ n H ρ' n' H') (g : Fr ρ' n' H' ρ'' n'' H'') : Fr ρ n H ρ'' n'' H'' where
  keep := fun b o e hb => g.keep b o (f.keep b o e hb) fun a q z => by
    rcases f.new a q with ⟨c, hc, e'⟩ | e'
    · exact hb c hc (e'.symm.trans z)
    · rw [z, e] at e'; cases e'
  new := fun a q => by
    rcases g.new a q with ⟨c, hc, e⟩ | e
    · rcases f.new c hc with ⟨d, hd, e'⟩ | e'
      · exact .inl ⟨d, hd, e.trans e'⟩
      · exact .inr (by rw [e]; exact e')
    · cases z : H (ρ'' a) with
      | none => exact .inr rfl
      | some o =>
        by_cases k : ∃ c, c < n ∧ ρ c = ρ'' a
        · obtain ⟨c, hc, e'⟩ := k
          exact .inl ⟨c, hc, e'.symm⟩
        · have := f.keep _ o z fun c hc e' => k ⟨c, hc, e'⟩
          rw [e] at this; cases this

variable (T K) in
/-- from the one to the other -/
structure Go (ρ : Nat → Addr) (h : LH) (H : Hp) (ρ' : Nat → Addr) (h' : LH) (H' : Hp) : Prop where
  ext : Ext h.n ρ ρ'
  le : h.n ≤ h'.n
  rep : Rep T K ρ' h' H'
  fr : Fr ρ h.n H ρ' h'.n H'
theorem Go.refl {ρ : Nat → Addr} {h : LH} {H : Hp} (r : Rep T K ρ h H) : Go T K ρ h H ρ h H := ⟨.refl _ _, Nat.le_refl _, r, .refl _ _ _⟩
theorem Go.trans {ρ ρ' ρ'' : Nat → Addr} {h h' h'' : LH} {H H' H'' : Hp} (a : Go T K ρ h H ρ' h' H') (b : Go T K ρ' h' H' ρ'' h'' H'') : Go T K ρ h H ρ'' h'' H'' :=
  ⟨a.ext.trans b.ext a.le, Nat.le_trans a.le b.le, b.rep, a.fr.trans b.fr⟩

def put1 (ρ : Nat → Addr) (n : Nat) (p : Addr) : Nat → Addr := fun a => if a = n then p else ρ a
theorem put1_self {ρ : Nat → Addr} {n : Nat} {p : Addr} : put1 ρ n p n = p := if_pos rfl
theorem put1_ext {ρ : Nat → Addr} {n : Nat} {p : Addr} : Ext n ρ (put1 ρ n p) := fun a q => if_neg (Nat.ne_of_lt q)
theorem Rep.at {ρ : Nat → Addr} {h : LH} {H : Hp} (r : Rep T K ρ h H) {a : Nat} (q : a < h.n) : ∃ u, H (ρ a) = some u := by
  obtain ⟨o, e⟩ := get_some r.len q
  obtain ⟨u, e', _⟩ := r.obj a o e
  exact ⟨u, e'⟩
/-- a new object -/
theorem Rep.put {ρ : Nat → Addr} {h : LH} {H : Hp} {o : LO} {u : HO} {p : Addr} (r : Rep T K ρ h H) (hp : H p = none) (q : ro T K (put1 ρ h.n p) (h.n + 1) h.c o u) : Go T K ρ h H (put1 ρ h.n p) (h.put o) (upd H p u) := by
  have ne : ∀ a, a < h.n → ρ a ≠ p := fun a ha z => by
    obtain ⟨u', e⟩ := r.at ha
    rw [z, hp] at e; cases e
  refine ⟨put1_ext, Nat.le_succ _, ⟨by show (o :: h.os).length = h.n + 1; rw [List.length_cons, r.len], fun a o' e => ?_, fun a b ha hb e => ?_⟩, ⟨fun b o' e hb => ?_, fun a ha => ?_⟩⟩
  · have ha : a < h.n + 1 := (get_lt e : a < (h.put o).n)
    by_cases z : a = h.n
    · subst z
      rw [get_put_self] at e
      cases e
      exact ⟨u, by rw [put1_self, upd_same], q⟩
    · have ha' : a < h.n := by omega
      rw [get_put_old ha'] at e
      obtain ⟨u', e', q'⟩ := r.obj a o' e
      refine ⟨u', ?_, ro_mono put1_ext (Nat.le_succ _) (Nat.le_refl _) q'⟩
      rw [put1_ext a ha', upd_ne (ne a ha')]
      exact e'
  · have ha : a < h.n + 1 := ha
    have hb : b < h.n + 1 := hb
    by_cases za : a = h.n
    · by_cases zb : b = h.n
      · rw [za, zb]
      · have hb' : b < h.n := by omega
        rw [za, put1_self, put1_ext b hb'] at e
        exact absurd e.symm (ne b hb')
    · have ha' : a < h.n := by omega
      by_cases zb : b = h.n
      · rw [zb, put1_self, put1_ext a ha'] at e
        exact absurd e (ne a ha')
      · have hb' : b < h.n := by omega
        rw [put1_ext a ha', put1_ext b hb'] at e
        exact r.inj a b ha' hb' e
  · rw [upd_ne (by intro z; rw [z, hp] at e; cases e)]
    exact e
  · have ha : a < h.n + 1 := ha
    by_cases z : a = h.n
    · right; rw [z, put1_self]; exact hp
    · have ha' : a < h.n := by omega
      exact .inl ⟨a, ha', put1_ext a ha'⟩
/-- an object changed -/
theorem Rep.set {ρ : Nat → Addr} {h : LH} {H : Hp} {o : LO} {u : HO} {a : Nat} (r : Rep T K ρ h H) (ha : a < h.n) (q : ro T K ρ h.n h.c o u) : Go T K ρ h H ρ (h.set a o) (upd H (ρ a) u) := by
  refine ⟨.refl _ _, Nat.le_refl _, ⟨by show (h.os.set _ _).length = h.n; rw [List.length_set, r.len], fun b o' e => ?_, r.inj⟩, ⟨fun b o' e hb => ?_, fun b hb => .inl ⟨b, hb, rfl⟩⟩⟩
  · have hb : b < h.n := (get_lt e : b < (h.set a o).n)
    by_cases z : b = a
    · subst z
      rw [get_set_self r.len ha] at e
      cases e
      exact ⟨u, upd_same, q⟩
    · rw [get_set_ne z ha] at e
      obtain ⟨u', e', q'⟩ := r.obj b o' e
      exact ⟨u', by rw [upd_ne fun y => z (r.inj b a hb ha y)]; exact e', q'⟩
  · rw [upd_ne fun z => hb a ha z.symm]
    exact e
end

/-! ### readings -/
section
variable (T : Tab) (K : PySem.W.Frag)
structure SRel (ρ : Nat → Addr) (n : Nat) (s : St) (σ : L2.St) : Prop where
  len : s.length = σ.length
  at_ : ∀ (i : Nat) (v : LV), s[i]? = some (some v) → inb n v ∧ σ[i]? = some (some (vx T K ρ v))
/-- what is wanted of values, said of logical ones -/
def KOk (ρ : Nat → Addr) (h : LH) (H : Hp) (Q : VK) (k : LV → LH → Prop) : Prop :=
  ∀ v h', k v h' → ∀ ρ' H', Go T K ρ h H ρ' h' H' → inb h'.n v → Q (vx T K ρ' v) H'
def XOk (ρ : Nat → Addr) (h : LH) (H : Hp) (E : XK) (x : XO → Prop) : Prop :=
  ∀ o, x o → match o with
    | .exc c d h' => ∀ ρ' H', Go T K ρ h H ρ' h' H' → d < h'.n → E (.ref (He.ga K (T.gn (T.cg c)))) (some (ρ' d)) H'
    | .bad => False
def tE (D : Hd Prop) (W : WX) (e : IE) : TE := fun σ H Q => ∃ ρ s h k x, SRel T K ρ h.n s σ ∧ Rep T K ρ h H ∧ rE D e s h k x ∧ KOk T K ρ h H Q k ∧ XOk T K ρ h H (fun c d H' => W c d σ H') x
def tEs (D : Hd Prop) (W : WX) (es : IEs) : TA := fun σ H Q => ∃ ρ s h k x, SRel T K ρ h.n s σ ∧ Rep T K ρ h H ∧ rEs D es s h k x ∧
  (∀ vs h', k vs h' → vs.length = es.len → ∀ ρ' H', Go T K ρ h H ρ' h' H' → (∀ v ∈ vs, inb h'.n v) → Q (vs.map (vx T K ρ')) H') ∧ XOk T K ρ h H (fun c d H' => W c d σ H') x
def SOk (ρ : Nat → Addr) (h : LH) (H : Hp) (D : Ends) (W : WX) (k : SO → Prop) : Prop :=
  ∀ o, k o → match o with
    | .nxt s h' => ∀ ρ' H' σ', Go T K ρ h H ρ' h' H' → SRel T K ρ' h'.n s σ' → D.nx σ' H'
    | .brk s h' => ∀ ρ' H' σ', Go T K ρ h H ρ' h' H' → SRel T K ρ' h'.n s σ' → D.bk σ' H'
    | .cnt s h' => ∀ ρ' H' σ', Go T K ρ h H ρ' h' H' → SRel T K ρ' h'.n s σ' → D.ct σ' H'
    | .ret v h' => ∀ ρ' H', Go T K ρ h H ρ' h' H' → inb h'.n v → D.rt (vx T K ρ' v) H'
    | .exc c d s h' => ∀ ρ' H' σ', Go T K ρ h H ρ' h' H' → SRel T K ρ' h'.n s σ' → d < h'.n → W (.ref (He.ga K (T.gn (T.cg c)))) (some (ρ' d)) σ' H'
    | .bad => False
def tS (D : Hd Prop) (W : WX) (st : IS) : TS := fun E σ H => ∃ ρ s h k, SRel T K ρ h.n s σ ∧ Rep T K ρ h H ∧ rS D st s h k ∧ SOk T K ρ h H E W k
def tSs (D : Hd Prop) (W : WX) (st : ISs) : TS := fun E σ H => ∃ ρ s h k, SRel T K ρ h.n s σ ∧ Rep T K ρ h H ∧ rSs D st s h k ∧ SOk T K ρ h H E W k
end
section
variable {T : Tab} {K : PySem.W.Frag}
theorem SRel.mono {ρ ρ' : Nat → Addr} {n n' : Nat} {s : St} {σ : L2.St} (r : SRel T K ρ n s σ) (e : Ext n ρ ρ') (l : n ≤ n') : SRel T K ρ' n' s σ :=
  ⟨r.len, fun i v h => ⟨inb_mono (r.at_ i v h).1 l, by rw [vx_ext e (r.at_ i v h).1]; exact (r.at_ i v h).2⟩⟩
theorem SRel.go {ρ ρ' : Nat → Addr} {h h' : LH} {H H' : Hp} {s : St} {σ : L2.St} (r : SRel T K ρ h.n s σ) (g : Go T K ρ h H ρ' h' H') : SRel T K ρ' h'.n s σ := r.mono g.ext g.le
theorem SRel.set {ρ : Nat → Addr} {n : Nat} {s : St} {σ : L2.St} (r : SRel T K ρ n s σ) (i : Nat) {v : LV} (q : inb n v) : SRel T K ρ n (s.set i (some v)) (σ.set i (some (vx T K ρ v))) := by
  refine ⟨by rw [List.length_set, List.length_set]; exact r.len, fun j w e => ?_⟩
  by_cases z : i = j
  · subst z
    by_cases hl : i < s.length
    · rw [List.getElem?_set_self hl] at e
      cases e
      exact ⟨q, List.getElem?_set_self (by rw [← r.len]; exact hl)⟩
    · rw [List.getElem?_eq_none (by rw [List.length_set]; omega)] at e; cases e
  · rw [List.getElem?_set_ne z] at e
    rw [List.getElem?_set_ne z]
    exact r.at_ j w e
theorem KOk.back {ρ ρ' : Nat → Addr} {h h' : LH} {H H' : Hp} {Q : VK} {k : LV → LH → Prop} (q : KOk T K ρ h H Q k) (g : Go T K ρ h H ρ' h' H') : KOk T K ρ' h' H' Q k :=
  fun v h2 e ρ2 H2 g2 i => q v h2 e ρ2 H2 (g.trans g2) i
theorem XOk.back {ρ ρ' : Nat → Addr} {h h' : LH} {H H' : Hp} {E : XK} {x : XO → Prop} (q : XOk T K ρ h H E x) (g : Go T K ρ h H ρ' h' H') : XOk T K ρ' h' H' E x := fun o e => by
  have z := q o e
  cases o with
  | exc c d h2 => exact fun ρ2 H2 g2 hd => z ρ2 H2 (g.trans g2) hd
  | bad => exact z
theorem SOk.back {ρ ρ' : Nat → Addr} {h h' : LH} {H H' : Hp} {D : Ends} {W : WX} {k : SO → Prop} (q : SOk T K ρ h H D W k) (g : Go T K ρ h H ρ' h' H') : SOk T K ρ' h' H' D W k := fun o e => by
  have z := q o e
  cases o with
  | nxt s h2 => exact fun ρ2 H2 σ' g2 => z ρ2 H2 σ' (g.trans g2)
  | brk s h2 => exact fun ρ2 H2 σ' g2 => z ρ2 H2 σ' (g.trans g2)
  | cnt s h2 => exact fun ρ2 H2 σ' g2 => z ρ2 H2 σ' (g.trans g2)
  | ret v h2 => exact fun ρ2 H2 g2 => z ρ2 H2 (g.trans g2)
  | exc c d s h2 => exact fun ρ2 H2 σ' g2 => z ρ2 H2 σ' (g.trans g2)
  | bad => exact z
end
end L3

/-! L3C: the rules of expressions. -/
set_option autoImplicit false
set_option linter.all false
set_option maxRecDepth 100000
set_option maxHeartbeats 1000000
namespace L3
open PySem PyProof.Rows L2

theorem PE.imp {X : Cx} {e : Expr} {t t' : TE} (h : PE X e t) (w : ∀ σ H Q, t' σ H Q → t σ H Q) : PE X e t' := ⟨fun pins s σ H Q I q => h.run pins s σ H Q I (w σ H Q q)⟩
theorem PT.imp {X : Cx} {e : Expr} {t t' : TT} (h : PT X e t) (w : ∀ σ H Q, t' σ H Q → t σ H Q) : PT X e t' := ⟨fun pins s σ H Q I q => h.run pins s σ H Q I (w σ H Q q)⟩
theorem PW.imp {X : Cx} {e : Expr} {t t' : TT} (h : PW X e t) (w : ∀ σ H Q, t' σ H Q → t σ H Q) : PW X e t' := ⟨fun wh pins s σ H Q I q => h.run wh pins s σ H Q I (w σ H Q q)⟩
theorem PA.imp {X : Cx} {e : List Expr} {t t' : TA} (h : PA X e t) (w : ∀ σ H Q, t' σ H Q → t σ H Q) : PA X e t' := ⟨fun pos pins s σ H Q I q => h.run pos pins s σ H Q I (w σ H Q q)⟩
theorem PS.imp {X : Cx} {e : Stmt} {t t' : TS} (h : PS X e t) (w : ∀ D σ H, t' D σ H → t D σ H) : PS X e t' := ⟨fun pins s σ H D I q => h.run pins s σ H D I (w D σ H q)⟩
theorem PSs.imp {X : Cx} {e : List Stmt} {t t' : TS} (h : PSs X e t) (w : ∀ D σ H, t' D σ H → t D σ H) : PSs X e t' := ⟨fun pins s σ H D I q => h.run pins s σ H D I (w D σ H q)⟩

/-! ### operators by values -/
section
variable (T : Tab) (K : PySem.W.Frag)
def R2Ok (p : P) (r : R2) : Prop := ∀ ρ h H v w z h' Q, Rep T K ρ h H → inb h.n v → inb h.n w → bin T p v w h = some (z, h') →
  (∀ ρ' H', Go T K ρ h H ρ' h' H' → inb h'.n z → Q (vx T K ρ' z) H') → r (vx T K ρ v) (vx T K ρ w) H Q
def R1Ok (p : P) (r : V → Hp → VK → Prop) : Prop := ∀ ρ h H v z h' Q, Rep T K ρ h H → inb h.n v → un T p v h = some (z, h') →
  (∀ ρ' H', Go T K ρ h H ρ' h' H' → inb h'.n z → Q (vx T K ρ' z) H') → r (vx T K ρ v) H Q
end
section
variable {T : Tab} {K : PySem.W.Frag} {D : Hd Prop} {W : WX}
theorem tOp_of {p : P} {r : R2} (hT : D.T = T) (ok : R2Ok T K p r) (hp : ∀ v w h, prim T p [v, w] h = bin T p v w h) {a b : IE} {σ : L2.St} {H : Hp} {Q : VK}
    (q : tE T K D W (.prim p (.cons a (.cons b .nil))) σ H Q) : tOp r (tE T K D W a) (tE T K D W b) σ H Q := by
  obtain ⟨ρ, s, h, k, x, hs, hr, e, hk, hx⟩ := q
  refine ⟨ρ, s, h, _, x, hs, hr, e, fun v h1 e1 ρ1 H1 g1 iv => ?_, hx⟩
  refine ⟨ρ1, s, h1, _, x, hs.go g1, g1.rep, e1, fun w h2 e2 ρ2 H2 g2 iw => ?_, hx.back g1⟩
  rw [← vx_ext g2.ext iv]
  have e2 : (match prim D.T p [v, w] h2 with
    | some (v, h2) => k v h2
    | none => x .bad) := e2
  rw [hT, hp] at e2
  cases hb : bin T p v w h2 with
  | none => rw [hb] at e2; exact (hx _ e2).elim
  | some z =>
    obtain ⟨z, h3⟩ := z
    rw [hb] at e2
    exact ok ρ2 h2 H2 v w z h3 Q g2.rep (inb_mono iv g2.le) iw hb fun ρ' H' g iz => hk z h3 e2 ρ' H' (g1.trans (g2.trans g)) iz
theorem tUn_of {p : P} {r : V → Hp → VK → Prop} (hT : D.T = T) (ok : R1Ok T K p r) (hp : ∀ v h, prim T p [v] h = un T p v h) {a : IE} {σ : L2.St} {H : Hp} {Q : VK}
    (q : tE T K D W (.prim p (.cons a .nil)) σ H Q) : tUn r (tE T K D W a) σ H Q := by
  obtain ⟨ρ, s, h, k, x, hs, hr, e, hk, hx⟩ := q
  refine ⟨ρ, s, h, _, x, hs, hr, e, fun v h1 e1 ρ1 H1 g1 iv => ?_, hx⟩
  have e1 : (match prim D.T p [v] h1 with
    | some (v, h2) => k v h2
    | none => x .bad) := e1
  rw [hT, hp] at e1
  cases hb : un T p v h1 with
  | none => rw [hb] at e1; exact (hx _ e1).elim
  | some z =>
    obtain ⟨z, h3⟩ := z
    rw [hb] at e1
    exact ok ρ1 h1 H1 v z h3 Q g1.rep iv hb fun ρ' H' g iz => hk z h3 e1 ρ' H' (g1.trans g) iz
end

/-! ### what the primitives need -/
section
variable {T : Tab} {K : PySem.W.Frag} {ρ : Nat → Addr} {h : LH} {H : Hp}
theorem rep_lst (r : Rep T K ρ h H) {a : Nat} {xs : List LV} (e : h.get a = some (.lst xs)) : H (ρ a) = some (.lst (xs.map (vx T K ρ))) ∧ (∀ v ∈ xs, inb h.n v) ∧ xs.length ≤ 16000000 := by
  obtain ⟨u, hu, q, z, rfl⟩ := r.obj a _ e
  exact ⟨hu, q, z⟩
theorem rep_tup (r : Rep T K ρ h H) {a : Nat} {xs : List LV} (e : h.get a = some (.tup xs)) : H (ρ a) = some (.tup (xs.map (vx T K ρ))) ∧ (∀ v ∈ xs, inb h.n v) ∧ xs.length ≤ 16000000 := by
  obtain ⟨u, hu, q, z, rfl⟩ := r.obj a _ e
  exact ⟨hu, q, z⟩
theorem rep_dic (r : Rep T K ρ h H) {a : Nat} {xs : List (LV × LV)} (e : h.get a = some (.dic xs)) : H (ρ a) = some (.dK (xs.map fun p => (kx p.1, vx T K ρ p.2))) ∧ (∀ p ∈ xs, keyOk p.1 = true ∧ inb h.n p.2) := by
  obtain ⟨u, hu, q, rfl⟩ := r.obj a _ e
  exact ⟨hu, q.1⟩
theorem rep_nd (r : Rep T K ρ h H) {a : Nat} {xs : List (LV × LV)} (e : h.get a = some (.dic xs)) : (xs.map (·.1)).Nodup ∧ xs.length ≤ 16000000 := by
  obtain ⟨u, hu, q, rfl⟩ := r.obj a _ e
  exact q.2
theorem rep_rol (r : Rep T K ρ h H) {a : Nat} {ns : List Int} (e : h.get a = some (.rol ns)) : SqL K H (ρ a) (ns.map V.int) := by
  obtain ⟨u, hu, ob, rfl⟩ := r.obj a _ e
  exact .inl (.inr ⟨ob, hu⟩)
theorem rep_ins (r : Rep T K ρ h H) {a c : Nat} {fs : List (Nat × LV)} (e : h.get a = some (.ins c fs)) :
    (T.okc c = true ∧ ∀ p ∈ fs, inb h.n p.2) ∧ ∃ dx, H (ρ a) = some (.ins (He.ga K (T.gn (T.cg c))) dx (fs.map fun p => (T.fn p.1, vx T K ρ p.2))) := by
  obtain ⟨u, hu, q, dx, rfl⟩ := r.obj a _ e
  exact ⟨q, dx, hu⟩
/-- what a constant tuple of the top is -/
def GtOk (T : Tab) (K : PySem.W.Frag) : Prop := ∀ i xs, T.gt i = some xs → xs.all flat = true ∧ ∀ H : Hp, SqT K H (He.ga K (T.gn i)) (xs.map (vx T K fun _ => 0))
theorem flat_inb {v : LV} (q : flat v = true) (n : Nat) : inb n v := by
  cases v <;> first | trivial | cases q
theorem flat_vx {v : LV} (q : flat v = true) (ρ ρ' : Nat → Addr) : vx T K ρ v = vx T K ρ' v := by
  cases v <;> first | rfl | cases q
theorem seqL_of (r : Rep T K ρ h H) {v : LV} {xs : List LV} (e : seqL h v = some xs) : (∀ w ∈ xs, inb h.n w) ∧ ∃ a, v = .ref a ∧ a < h.n ∧ SqL K H (ρ a) (xs.map (vx T K ρ)) := by
  cases v with
  | ref a =>
    unfold seqL at e
    dsimp only at e
    cases g : h.get a with
    | none => rw [g] at e; cases e
    | some o =>
      rw [g] at e
      cases o with
      | lst ys => cases e; obtain ⟨q1, q2, _⟩ := rep_lst r g; exact ⟨q2, _, rfl, get_lt g, SqL.of q1⟩
      | rol ns =>
        cases e
        refine ⟨fun w hw => ?_, _, rfl, get_lt g, ?_⟩
        · obtain ⟨n, _, rfl⟩ := List.mem_map.mp hw
          trivial
        · have q := rep_rol r g
          rw [List.map_map]
          exact q
      | _ => cases e
  | _ => cases e
theorem seqT_of (G : GtOk T K) (r : Rep T K ρ h H) {v : LV} {xs : List LV} (e : seqT T h v = some xs) : (∀ w ∈ xs, inb h.n w) ∧ inb h.n v ∧ ∃ p, vx T K ρ v = .ref p ∧ SqT K H p (xs.map (vx T K ρ)) := by
  cases v with
  | ref a =>
    unfold seqT at e
    dsimp only at e
    cases g : h.get a with
    | none => rw [g] at e; cases e
    | some o =>
      rw [g] at e
      cases o with
      | tup ys => cases e; obtain ⟨q1, q2, _⟩ := rep_tup r g; exact ⟨q2, get_lt g, _, rfl, SqT.of q1⟩
      | _ => cases e
  | gl i =>
    have e' : T.gt i = some xs := e
    obtain ⟨f, q⟩ := G i xs e'
    refine ⟨fun w hw => flat_inb (List.all_eq_true.mp f w hw) _, trivial, _, rfl, ?_⟩
    have m : xs.map (vx T K ρ) = xs.map (vx T K fun _ => 0) := List.map_congr_left fun w hw => flat_vx (List.all_eq_true.mp f w hw) _ _
    rw [m]
    exact q H
  | _ => cases e
theorem seq_of (G : GtOk T K) (r : Rep T K ρ h H) {v : LV} {xs : List LV} (e : seqOf T h v = some xs) (iv : inb h.n v) :
    (∀ w ∈ xs, inb h.n w) ∧ ∃ p, vx T K ρ v = .ref p ∧ (SqL K H p (xs.map (vx T K ρ)) ∨ SqT K H p (xs.map (vx T K ρ))) := by
  cases v with
  | ref a =>
    unfold seqOf at e
    dsimp only at e
    cases g : h.get a with
    | none => rw [g] at e; cases e
    | some o =>
      rw [g] at e
      cases o with
      | lst ys => cases e; obtain ⟨q1, q2, _⟩ := rep_lst r g; exact ⟨q2, _, rfl, .inl (SqL.of q1)⟩
      | tup ys => cases e; obtain ⟨q1, q2, _⟩ := rep_tup r g; exact ⟨q2, _, rfl, .inr (SqT.of q1)⟩
      | rol ns =>
        cases e
        refine ⟨fun w hw => ?_, _, rfl, .inl ?_⟩
        · obtain ⟨n, _, rfl⟩ := List.mem_map.mp hw
          trivial
        · have q := rep_rol r g
          rw [List.map_map]
          exact q
      | _ => cases e
  | gl i =>
    have e' : T.gt i = some xs := e
    obtain ⟨f, q⟩ := G i xs e'
    refine ⟨fun w hw => flat_inb (List.all_eq_true.mp f w hw) _, _, rfl, .inr ?_⟩
    have m : xs.map (vx T K ρ) = xs.map (vx T K fun _ => 0) := List.map_congr_left fun w hw => flat_vx (List.all_eq_true.mp f w hw) _ _
    rw [m]
    exact q H
  | _ => cases e
theorem map_at {α β : Type} (f : α → β) {xs : List α} {i : Int} {v : α} (e : L3.atI xs i = some v) : L2.atI (xs.map f) i = some (f v) := by
  unfold L3.atI at e
  unfold L2.atI
  have k : ∀ n : Nat, L2.ixN n i = L3.ixN n i := fun n => by
    unfold L2.ixN L3.ixN
    by_cases h1 : 0 ≤ i
    · rw [if_pos h1, decide_eq_true h1]
      by_cases h2 : i < n
      · rw [if_pos h2, decide_eq_true h2]; rfl
      · rw [if_neg h2, decide_eq_false h2]; rfl
    · rw [if_neg h1, decide_eq_false h1]
      by_cases h2 : -(n : Int) ≤ i
      · rw [if_pos h2, decide_eq_true h2]; rfl
      · rw [if_neg h2, decide_eq_false h2]; rfl
  rw [List.length_map, k]
  cases q : L3.ixN xs.length i with
  | none => rw [q] at e; cases e
  | some j =>
    rw [q] at e
    have e : xs[j]? = some v := e
    show (some j).bind _ = _
    rw [Option.bind_some, List.getElem?_map, e]
    rfl
theorem at_mem {α : Type} {xs : List α} {i : Int} {v : α} (e : L3.atI xs i = some v) : v ∈ xs := by
  unfold L3.atI at e
  cases q : L3.ixN xs.length i with
  | none => rw [q] at e; cases e
  | some j => rw [q] at e; exact List.mem_of_getElem? e
theorem len_toStr (s : S) : (toStr s).length = s.length := rfl
theorem fits_line {n : Nat} (q : fits n = true) : n ≤ 1000000 := Nat.le_of_ble_eq_true q
theorem line_eq : sizeLine = 16777216 := sizeLine_eq
theorem flat_V {v : LV} (q : flat v = true) : flatV (vx T K ρ v) = true := by
  cases v <;> first | rfl | cases q
theorem eqF_V {v w : LV} (hv : flat v = true) (hw : flat w = true) : eqV (vx T K ρ v) (vx T K ρ w) = eqF v w := by
  cases v with
  | str a =>
    cases w with
    | str b =>
      show (toStr a == toStr b) = decide (a = b)
      by_cases e : a = b
      · subst e; simp
      · rw [decide_eq_false e]
        exact beq_eq_false_iff_ne.mpr fun z => e (toStr_inj z)
    | ref _ => cases hw
    | gl _ => cases hw
    | _ => rfl
  | int a =>
    cases w with
    | int b => exact (Bool.beq_eq_decide_eq a b)
    | bl b => cases b <;> rfl
    | ref _ => cases hw
    | gl _ => cases hw
    | _ => rfl
  | bl a =>
    cases w with
    | int b => cases a <;> rfl
    | ref _ => cases hw
    | gl _ => cases hw
    | _ => rfl
  | non => cases w <;> first | rfl | cases hw
  | ref _ => cases hv
  | gl _ => cases hv
theorem inL_flat {x : LV} : ∀ {ys : List LV} {b : Bool}, inL x ys = some b → ys.all flat = true
  | [], _, _ => rfl
  | y :: ys, b, e => by
    unfold inL at e
    cases f : flat y with
    | false => rw [f] at e; cases e
    | true =>
      rw [f] at e
      rw [List.all_cons, f]
      cases g : eqF y x with
      | false => rw [g] at e; exact inL_flat (ys := ys) e
      | true =>
        rw [g] at e
        cases q : inL x ys with
        | none => simp [q] at e
        | some c => exact inL_flat (ys := ys) q
theorem inL_V {x : LV} (hx : flat x = true) : ∀ {ys : List LV} {b : Bool}, inL x ys = some b → inV (vx T K ρ x) (ys.map (vx T K ρ)) = b
  | [], b, e => by cases e; rfl
  | y :: ys, b, e => by
    have hf := inL_flat e
    rw [List.all_cons, Bool.and_eq_true] at hf
    unfold inL at e
    rw [hf.1] at e
    show (eqV (vx T K ρ y) (vx T K ρ x) || inV (vx T K ρ x) (ys.map (vx T K ρ))) = b
    rw [eqF_V hf.1 hx]
    cases g : eqF y x with
    | false => rw [g] at e; rw [Bool.false_or]; exact inL_V hx e
    | true =>
      rw [g] at e
      rw [Bool.true_or]
      cases q : inL x ys with
      | none => simp [q] at e
      | some c => simp [q] at e; exact e.symm
end

/-! ### each operator -/
section
variable {T : Tab} {K : PySem.W.Frag}
theorem okn_eq {v z : LV} {h h' : LH} (e : okn v h = some (z, h')) : z = v ∧ h = h' := by
  unfold okn at e
  cases e
  exact ⟨rfl, rfl⟩
theorem r_sub : R2Ok T K .sub (rI0 fun i j => .int (i - j)) := by
  intro ρ h H v w z h' Q r iv iw e q
  cases v <;> try (cases e; done)
  cases w <;> cases e
  exact ⟨_, _, rfl, rfl, q ρ H (.refl r) trivial⟩
theorem r_lt : R2Ok T K .lt (rI0 fun i j => .bl (decide (i < j))) := by
  intro ρ h H v w z h' Q r iv iw e q
  cases v <;> try (cases e; done)
  cases w <;> cases e
  exact ⟨_, _, rfl, rfl, q ρ H (.refl r) trivial⟩
theorem r_le : R2Ok T K .le (rI0 fun i j => .bl (decide (i ≤ j))) := by
  intro ρ h H v w z h' Q r iv iw e q
  cases v <;> try (cases e; done)
  cases w <;> cases e
  exact ⟨_, _, rfl, rfl, q ρ H (.refl r) trivial⟩
theorem r_gt : R2Ok T K .gt (rI0 fun i j => .bl (decide (j < i))) := by
  intro ρ h H v w z h' Q r iv iw e q
  cases v <;> try (cases e; done)
  cases w <;> cases e
  exact ⟨_, _, rfl, rfl, q ρ H (.refl r) trivial⟩
theorem r_ge : R2Ok T K .ge (rI0 fun i j => .bl (decide (j ≤ i))) := by
  intro ρ h H v w z h' Q r iv iw e q
  cases v <;> try (cases e; done)
  cases w <;> cases e
  exact ⟨_, _, rfl, rfl, q ρ H (.refl r) trivial⟩
theorem r_mod : R2Ok T K .mod (L2.rI (fun _ j => 0 < j) fun i j => .int (i % j)) := by
  intro ρ h H v w z h' Q r iv iw e q
  obtain ⟨i, rfl⟩ : ∃ i, v = .int i := by cases v <;> first | exact ⟨_, rfl⟩ | (exact nomatch e)
  obtain ⟨j, rfl⟩ : ∃ j, w = .int j := by cases w <;> first | exact ⟨_, rfl⟩ | (exact nomatch e)
  have e' : (bif decide (0 < j) then okn (.int (i % j)) h else none) = some (z, h') := e
  by_cases c : 0 < j
  · rw [decide_eq_true c] at e'
    obtain ⟨rfl, rfl⟩ := okn_eq e'
    exact ⟨_, _, rfl, rfl, c, q ρ H (.refl r) trivial⟩
  · rw [decide_eq_false c] at e'; cases e'
theorem r_fdiv : R2Ok T K .fdiv (L2.rI CDiv fun i j => .int (i / j)) := by
  intro ρ h H v w z h' Q r iv iw e q
  obtain ⟨i, rfl⟩ : ∃ i, v = .int i := by cases v <;> first | exact ⟨_, rfl⟩ | (exact nomatch e)
  obtain ⟨j, rfl⟩ : ∃ j, w = .int j := by cases w <;> first | exact ⟨_, rfl⟩ | (exact nomatch e)
  have e' : (bif decide (0 < j) && decide (j < 1073741824) then okn (.int (i / j)) h else none) = some (z, h') := e
  by_cases c : 0 < j ∧ j < 1073741824
  · rw [decide_eq_true c.1, decide_eq_true c.2] at e'
    obtain ⟨rfl, rfl⟩ := okn_eq e'
    exact ⟨_, _, rfl, rfl, c, q ρ H (.refl r) trivial⟩
  · rw [← Bool.decide_and, decide_eq_false c] at e'; cases e'
theorem r_pow : R2Ok T K .pow (L2.rI CPow fun i j => .int (i ^ j.toNat)) := by
  intro ρ h H v w z h' Q r iv iw e q
  obtain ⟨i, rfl⟩ : ∃ i, v = .int i := by cases v <;> first | exact ⟨_, rfl⟩ | (exact nomatch e)
  obtain ⟨j, rfl⟩ : ∃ j, w = .int j := by cases w <;> first | exact ⟨_, rfl⟩ | (exact nomatch e)
  have e' : (bif decide (0 ≤ j) && decide (j ≤ 1000000) && Nat.blt i.natAbs (2 ^ 64) then okn (.int (i ^ j.toNat)) h else none) = some (z, h') := e
  cases c : (decide (0 ≤ j) && decide (j ≤ 1000000) && Nat.blt i.natAbs (2 ^ 64)) with
  | true =>
    rw [c] at e'
    obtain ⟨rfl, rfl⟩ := okn_eq e'
    simp only [Bool.and_eq_true, decide_eq_true_eq] at c
    exact ⟨_, _, rfl, rfl, ⟨c.1.1, c.1.2, Nat.le_of_ble_eq_true c.2⟩, q ρ H (.refl r) trivial⟩
  | false => rw [c] at e'; cases e'
theorem small_ok {i : Int} (q : small i = true) : -(2 ^ 64) < i ∧ i < 2 ^ 64 := by
  unfold small at q
  simpa using q
abbrev rMulA : R2 := fun x y H Q => L2.rI CMul (fun i j => .int (i * j)) x y H Q ∨ rRep x y H Q
theorem op_mulA {X : Cx} : OpR X (binaryOp .Mult) rMulA := OpR.or op_mul op_rep
theorem r_mul : R2Ok T K .mul rMulA := by
  intro ρ h H v w z h' Q r iv iw e q
  cases v with
  | int i =>
    obtain ⟨j, rfl⟩ : ∃ j, w = .int j := by cases w <;> first | exact ⟨_, rfl⟩ | (exact nomatch e)
    have e' : (bif small i || small j then okn (.int (i * j)) h else none) = some (z, h') := e
    cases c : (small i || small j) with
    | true =>
      rw [c] at e'
      obtain ⟨rfl, rfl⟩ := okn_eq e'
      rw [Bool.or_eq_true] at c
      exact .inl ⟨_, _, rfl, rfl, c.elim (fun c => .inl (small_ok c)) (fun c => .inr (small_ok c)), q ρ H (.refl r) trivial⟩
    | false => rw [c] at e'; cases e'
  | ref a =>
    obtain ⟨j, rfl⟩ : ∃ j, w = .int j := by cases w <;> first | exact ⟨_, rfl⟩ | (exact nomatch e)
    unfold bin at e
    dsimp only at e
    cases g : h.get a with
    | none => rw [g] at e; cases e
    | some o =>
      rw [g] at e
      obtain ⟨xs, rfl⟩ : ∃ xs, o = .lst xs := by cases o <;> first | exact ⟨_, rfl⟩ | (exact nomatch e)
      dsimp only at e
      cases c : (decide (0 ≤ j) && decide (j ≤ 1000) && fits (xs.length * j.toNat)) with
      | false => rw [c] at e; cases e
      | true =>
        rw [c] at e
        obtain ⟨rfl, rfl⟩ := okn_eq e
        simp only [Bool.and_eq_true, decide_eq_true_eq] at c
        obtain ⟨q1, q2, _⟩ := rep_lst r g
        have z1 := fits_line c.2
        refine .inr ⟨_, _, _, rfl, rfl, q1, by omega, by omega, by rw [List.length_map, line_eq]; omega, fun p hp => ?_⟩
        have G := Rep.put (o := .lst (List.replicate j.toNat xs).flatten) (u := .lst ((List.replicate j.toNat (xs.map (vx T K ρ))).flatten)) r hp ⟨fun v hv => ?_, by simp; rw [Nat.mul_comm]; omega, ?_⟩
        · have := q _ _ G (Nat.lt_succ_self _)
          rw [show vx T K (put1 ρ h.n p) (.ref h.n) = V.ref p from congrArg V.ref put1_self] at this
          exact this
        · obtain ⟨l, hl, hv⟩ := List.mem_flatten.mp hv
          rw [(List.mem_replicate.mp hl).2] at hv
          exact inb_mono (q2 v hv) (Nat.le_succ _)
        · congr 1
          rw [List.map_flatten, List.map_replicate, map_ext put1_ext q2]
  | _ => cases e
abbrev rAddA : R2 := fun x y H Q => (rI0 (fun i j => .int (i + j)) x y H Q ∨ (∃ i j, x = .str i ∧ y = .str j ∧ i.length + j.length ≤ sizeLine ∧ Q (.str (i ++ j)) H)) ∨ rCat x y H Q
theorem op_addA {X : Cx} : OpR X (binaryOp .Add) rAddA := OpR.or (OpR.or op_add op_add_str) op_cat
theorem toStr_app (a b : S) : toStr (a ++ b) = toStr a ++ toStr b := by
  show (⟨(a ++ b).toArray⟩ : Str) = ⟨a.toArray ++ b.toArray⟩
  simp
theorem r_add : R2Ok T K .add rAddA := by
  intro ρ h H v w z h' Q r iv iw e q
  cases v with
  | int i =>
    cases w <;> cases e
    exact .inl (.inl ⟨_, _, rfl, rfl, q ρ H (.refl r) trivial⟩)
  | str a =>
    obtain ⟨b, rfl⟩ : ∃ b, w = .str b := by cases w <;> first | exact ⟨_, rfl⟩ | (exact nomatch e)
    have e' : (bif fits (a.length + b.length) then okn (.str (a ++ b)) h else none) = some (z, h') := e
    cases c : fits (a.length + b.length) with
    | false => rw [c] at e'; cases e'
    | true =>
      rw [c] at e'
      obtain ⟨rfl, rfl⟩ := okn_eq e'
      refine .inl (.inr ⟨_, _, rfl, rfl, by rw [len_toStr, len_toStr, line_eq]; have := fits_line c; omega, ?_⟩)
      rw [← toStr_app]
      exact q ρ H (.refl r) trivial
  | ref a =>
    obtain ⟨b, rfl⟩ : ∃ b, w = .ref b := by cases w <;> first | exact ⟨_, rfl⟩ | (exact nomatch e)
    unfold bin at e
    dsimp only at e
    cases g : h.get a with
    | none => rw [g] at e; cases e
    | some o =>
      rw [g] at e
      obtain ⟨xs, rfl⟩ : ∃ xs, o = .lst xs := by cases o <;> first | exact ⟨_, rfl⟩ | (exact nomatch e)
      cases g2 : h.get b with
      | none => rw [g2] at e; cases e
      | some o2 =>
        rw [g2] at e
        obtain ⟨ys, rfl⟩ : ∃ xs, o2 = .lst xs := by cases o2 <;> first | exact ⟨_, rfl⟩ | (exact nomatch e)
        dsimp only at e
        cases c : fits (xs.length + ys.length) with
        | false => rw [c] at e; cases e
        | true =>
          rw [c] at e
          obtain ⟨rfl, rfl⟩ := okn_eq e
          obtain ⟨q1, q2, _⟩ := rep_lst r g
          obtain ⟨p1, p2, _⟩ := rep_lst r g2
          have z1 := fits_line c
          refine .inr ⟨_, _, _, _, rfl, rfl, q1, p1, by rw [List.length_map, List.length_map, line_eq]; omega, fun p hp => ?_⟩
          have G := Rep.put (o := .lst (xs ++ ys)) (u := .lst (xs.map (vx T K ρ) ++ ys.map (vx T K ρ))) r hp ⟨fun v hv => ?_, by rw [List.length_append]; omega, ?_⟩
          · have := q _ _ G (Nat.lt_succ_self _)
            rw [show vx T K (put1 ρ h.n p) (.ref h.n) = V.ref p from congrArg V.ref put1_self] at this
            exact this
          · rcases List.mem_append.mp hv with hv | hv
            · exact inb_mono (q2 v hv) (Nat.le_succ _)
            · exact inb_mono (p2 v hv) (Nat.le_succ _)
          · rw [List.map_append, map_ext put1_ext q2, map_ext put1_ext p2]
  | _ => cases e
/-- a test for membership -/
theorem r_in (G : GtOk T K) : R2Ok T K .inn (rIn K false) := by
  intro ρ h H v w z h' Q r iv iw e q
  unfold bin at e
  dsimp only at e
  cases f : flat v with
  | false => rw [f] at e; cases e
  | true =>
    rw [f] at e
    dsimp only [cond] at e
    cases g : seqOf T h w with
    | none => rw [g] at e; cases e
    | some ys =>
      rw [g] at e
      dsimp only at e
      cases b : inL v ys with
      | none => rw [b] at e; cases e
      | some b' =>
        rw [b] at e
        obtain ⟨rfl, rfl⟩ := okn_eq e
        obtain ⟨_, p, ep, hp⟩ := seq_of G r g iw
        refine ⟨p, _, ep, hp, flat_V f, ?_, ?_⟩
        · rw [List.all_map]
          exact List.all_eq_true.mpr fun y hy => flat_V (List.all_eq_true.mp (inL_flat b) y hy)
        · show Q (.bl (if false = true then _ else inV _ _)) H
          rw [if_neg (by decide), inL_V f b]
          exact q ρ H (.refl r) trivial
theorem r_notin (G : GtOk T K) : R2Ok T K .notin (rIn K true) := by
  intro ρ h H v w z h' Q r iv iw e q
  unfold bin at e
  dsimp only at e
  cases f : flat v with
  | false => rw [f] at e; cases e
  | true =>
    rw [f] at e
    dsimp only [cond] at e
    cases g : seqOf T h w with
    | none => rw [g] at e; cases e
    | some ys =>
      rw [g] at e
      dsimp only at e
      cases b : inL v ys with
      | none => rw [b] at e; cases e
      | some b' =>
        rw [b] at e
        obtain ⟨rfl, rfl⟩ := okn_eq e
        obtain ⟨_, p, ep, hp⟩ := seq_of G r g iw
        refine ⟨p, _, ep, hp, flat_V f, ?_, ?_⟩
        · rw [List.all_map]
          exact List.all_eq_true.mpr fun y hy => flat_V (List.all_eq_true.mp (inL_flat b) y hy)
        · show Q (.bl (if true = true then !inV _ _ else _)) H
          rw [if_pos rfl, inL_V f b]
          exact q ρ H (.refl r) trivial
theorem r_isB : R2Ok T K .isB (fun x y H Q => ∃ a b, x = .bl a ∧ y = .bl b ∧ Q (.bl (decide (a = b))) H) := by
  intro ρ h H v w z h' Q r iv iw e q
  cases v <;> try (cases e; done)
  cases w <;> cases e
  exact ⟨_, _, rfl, rfl, q ρ H (.refl r) trivial⟩
theorem r_notB : R2Ok T K .notB (fun x y H Q => ∃ a b, x = .bl a ∧ y = .bl b ∧ Q (.bl (!decide (a = b))) H) := by
  intro ρ h H v w z h' Q r iv iw e q
  cases v <;> try (cases e; done)
  cases w <;> cases e
  exact ⟨_, _, rfl, rfl, q ρ H (.refl r) trivial⟩
end
end L3

/-! L3D: more rules of expressions: equality, subscripts, calls of built-ins. -/
set_option autoImplicit false
set_option linter.all false
set_option maxRecDepth 100000
set_option maxHeartbeats 1000000
namespace L3
open PySem PyProof.Rows L2

mutual
def py : D → PyData
  | .non => .none
  | .bl b => .bool b
  | .int i => .int i
  | .str s => .str (toStr s)
  | .lst ds => .list (pys ds)
  | .tup ds => .tuple (pys ds)
def pys : List D → List PyData
  | [] => []
  | d :: ds => py d :: pys ds
end
mutual
theorem py_eqv : ∀ a b : D, PyData.eqv (py a) (py b) = D.eqv a b
  | .non, b => by cases b <;> simp [py, D.eqv, PyData.eqv]
  | .bl a, b => by cases b <;> simp [py, D.eqv, PyData.eqv, cond_eq_ite]
  | .int a, b => by cases b <;> simp [py, D.eqv, PyData.eqv, cond_eq_ite]
  | .str a, b => by
    cases b with
    | str b =>
      simp only [py, D.eqv, PyData.eqv]
      by_cases e : a = b
      · subst e; simp
      · rw [beq_eq_false_iff_ne.mpr e]
        exact beq_eq_false_iff_ne.mpr fun z => e (toStr_inj z)
    | _ => simp [py, D.eqv, PyData.eqv]
  | .lst xs, b => by
    cases b with
    | lst ys => simp only [py, D.eqv, PyData.eqv]; exact pys_eqv xs ys
    | _ => simp [py, D.eqv, PyData.eqv]
  | .tup xs, b => by
    cases b with
    | tup ys => simp only [py, D.eqv, PyData.eqv]; exact pys_eqv xs ys
    | _ => simp [py, D.eqv, PyData.eqv]
theorem pys_eqv : ∀ a b : List D, PyData.eqvAll (pys a) (pys b) = D.eqvs a b
  | [], [] => rfl
  | [], _ :: _ => rfl
  | _ :: _, [] => rfl
  | x :: xs, y :: ys => by
    simp only [pys, D.eqvs, PyData.eqvAll]
    rw [py_eqv x y, pys_eqv xs ys]
end
theorem strOk_of {s : S} (q : L3.strOk s = true) : PyData.strOk (toStr s) = true := by
  unfold PyData.strOk toStr
  unfold L3.strOk at q
  rw [Array.all_eq_true]
  intro i hi
  have z := List.all_eq_true.mp q (s.toArray[i]) (by simp)
  have := Nat.le_of_ble_eq_true z
  simp only [decide_eq_true_eq]
  omega

section
variable {T : Tab} {K : PySem.W.Frag} {ρ : Nat → Addr} {h : LH} {H : Hp}
/-- data as the library has it: what it is, that it can be compared, how deep it is -/
structure DatOk (K : PySem.W.Frag) (H : Hp) (n : Nat) (x : V) (d : D) : Prop where
  dp : Dp K H x (py d)
  lay : PyData.canLay0 (py d) = true
  dep : PyData.depth (py d) ≤ n
theorem dats_ok (n : Nat) (f : LV → Option D) (xs : List LV) (hf : ∀ v ∈ xs, ∀ d, f v = some d → DatOk K H n (vx T K ρ v) d) : ∀ (ds : List D), mapO f xs = some ds →
    DpAll K H (xs.map (vx T K ρ)) (pys ds) ∧ PyData.canLayAll0 (pys ds) = true ∧ PyData.depthAll (pys ds) ≤ n := by
  induction xs with
  | nil => intro ds e; cases e; exact ⟨.nil, rfl, Nat.zero_le _⟩
  | cons v vs ih =>
    intro ds e
    unfold mapO at e
    cases g : f v with
    | none => rw [g] at e; cases e
    | some d =>
      rw [g] at e
      dsimp only at e
      cases g2 : mapO f vs with
      | none => rw [g2] at e; cases e
      | some ds' =>
        rw [g2] at e
        cases e
        obtain ⟨i1, i2, i3⟩ := ih (fun w hw => hf w (List.mem_cons_of_mem _ hw)) ds' g2
        have o := hf v List.mem_cons_self d g
        refine ⟨.cons o.dp i1, ?_, ?_⟩
        · show (PyData.canLay0 (py d) && PyData.canLayAll0 (pys ds')) = true
          rw [o.lay, i2]; rfl
        · show max (PyData.depth (py d)) (PyData.depthAll (pys ds')) ≤ n
          exact Nat.max_le.mpr ⟨o.dep, i3⟩
theorem dat_ok (r : Rep T K ρ h H) : ∀ (n : Nat) (v : LV) (d : D), dat n h v = some d → DatOk K H n (vx T K ρ v) d
  | 0, v, d, e => by
    cases v with
    | str s =>
      have e' : (bif L3.strOk s then some (D.str s) else none) = some d := e
      cases c : L3.strOk s with
      | false => rw [c] at e'; cases e'
      | true => rw [c] at e'; cases e'; exact ⟨.str _, strOk_of c, Nat.le_refl _⟩
    | non => cases e; exact ⟨.non, rfl, Nat.le_refl _⟩
    | bl b => cases e; exact ⟨.bl b, rfl, Nat.le_refl _⟩
    | int i => cases e; exact ⟨.int i, rfl, Nat.le_refl _⟩
    | ref _ => cases e
    | gl _ => cases e
  | n + 1, v, d, e => by
    cases v with
    | str s =>
      have e' : (bif L3.strOk s then some (D.str s) else none) = some d := e
      cases c : L3.strOk s with
      | false => rw [c] at e'; cases e'
      | true => rw [c] at e'; cases e'; exact ⟨.str _, strOk_of c, Nat.zero_le _⟩
    | non => cases e; exact ⟨.non, rfl, Nat.zero_le _⟩
    | bl b => cases e; exact ⟨.bl b, rfl, Nat.zero_le _⟩
    | int i => cases e; exact ⟨.int i, rfl, Nat.zero_le _⟩
    | ref a =>
      unfold dat at e
      dsimp only at e
      cases g : h.get a with
      | none => rw [g] at e; cases e
      | some o =>
        rw [g] at e
        cases o with
        | lst xs =>
          dsimp only at e
          cases m : mapO (dat n h) xs with
          | none => rw [m] at e; cases e
          | some ds =>
            rw [m] at e
            cases e
            obtain ⟨i1, i2, i3⟩ := dats_ok n (dat n h) xs (fun w _ d' e' => dat_ok r n w d' e') ds m
            exact ⟨.lst (SqL.of (rep_lst r g).1) i1, i2, Nat.succ_le_succ i3⟩
        | tup xs =>
          dsimp only at e
          cases m : mapO (dat n h) xs with
          | none => rw [m] at e; cases e
          | some ds =>
            rw [m] at e
            cases e
            obtain ⟨i1, i2, i3⟩ := dats_ok n (dat n h) xs (fun w _ d' e' => dat_ok r n w d' e') ds m
            exact ⟨.tup (SqT.of (rep_tup r g).1) i1, i2, Nat.succ_le_succ i3⟩
        | _ => cases e
    | gl _ => cases e
theorem DatOk.shaped {n : Nat} {x : V} {d : D} (o : DatOk K H n x d) (hn : n ≤ 64) : SeqAt.shaped (py d) = true := by
  unfold SeqAt.shaped
  rw [o.lay, decide_eq_true (Nat.le_trans o.dep hn)]
  rfl
end

section
variable {T : Tab} {K : PySem.W.Frag}
abbrev rEqA (K : PySem.W.Frag) : R2 := fun x y H Q => rEq x y H Q ∨ rEqD K x y H Q
abbrev rNeA (K : PySem.W.Frag) : R2 := fun x y H Q => rNe x y H Q ∨ rNeD K x y H Q
theorem op_eqA {X : Cx} (hu : X.A.units + 64 < cLine) : OpR X (compareOp .Eq) (rEqA X.K) := OpR.or op_eq (op_eqD hu)
theorem op_neA {X : Cx} (hu : X.A.units + 64 < cLine) : OpR X (compareOp .NotEq) (rNeA X.K) := OpR.or op_ne (op_neD hu)
theorem scal_eq {ρ : Nat → Addr} {v w : LV} {b : Bool} {h : LH} (e : eqLV h v w = some b) :
    (scal (vx T K ρ v) (vx T K ρ w) = true ∧ decide (vx T K ρ v = vx T K ρ w) = b) ∨ ∃ d f, dat 20 h v = some d ∧ dat 20 h w = some f ∧ D.eqv d f = b := by
  have gen : (match dat 20 h v, dat 20 h w with
    | some a, some b => some (D.eqv a b)
    | _, _ => none) = some b → ∃ d f, dat 20 h v = some d ∧ dat 20 h w = some f ∧ D.eqv d f = b := fun z => by
    cases g1 : dat 20 h v with
    | none => rw [g1] at z; cases z
    | some d =>
      cases g2 : dat 20 h w with
      | none => rw [g1, g2] at z; cases z
      | some f => rw [g1, g2] at z; cases z; exact ⟨d, f, rfl, rfl, rfl⟩
  cases v with
  | non => cases w with
    | non => cases e; exact .inl ⟨rfl, rfl⟩
    | _ => exact .inr (gen e)
  | int i => cases w with
    | int j =>
      have e' : some (decide (i = j)) = some b := e
      cases e'
      refine .inl ⟨rfl, ?_⟩
      show decide (V.int i = V.int j) = decide (i = j)
      by_cases c : i = j
      · subst c; simp
      · rw [decide_eq_false c, decide_eq_false fun z => c (V.int.inj z)]
    | _ => exact .inr (gen e)
  | bl i => cases w with
    | bl j =>
      have e' : some (decide (i = j)) = some b := e
      cases e'
      refine .inl ⟨rfl, ?_⟩
      show decide (V.bl i = V.bl j) = decide (i = j)
      by_cases c : i = j
      · subst c; simp
      · rw [decide_eq_false c, decide_eq_false fun z => c (V.bl.inj z)]
    | _ => exact .inr (gen e)
  | str i => cases w with
    | str j =>
      have e' : some (decide (i = j)) = some b := e
      cases e'
      refine .inl ⟨rfl, ?_⟩
      show decide (V.str (toStr i) = V.str (toStr j)) = decide (i = j)
      by_cases c : i = j
      · subst c; simp
      · rw [decide_eq_false c, decide_eq_false fun z => c (toStr_inj (V.str.inj z))]
    | _ => exact .inr (gen e)
  | ref a => exact .inr (gen (by cases w <;> exact e))
  | gl a => exact .inr (gen (by cases w <;> exact e))
theorem r_eq : R2Ok T K .eq (rEqA K) := by
  intro ρ h H v w z h' Q r iv iw e q
  unfold bin at e
  dsimp only at e
  cases g : eqLV h v w with
  | none => rw [g] at e; cases e
  | some b =>
    rw [g] at e
    obtain ⟨rfl, rfl⟩ := okn_eq e
    rcases scal_eq (T := T) (K := K) (ρ := ρ) g with ⟨h1, h2⟩ | ⟨d, f, h1, h2, h3⟩
    · refine .inl ⟨h1, ?_⟩
      rw [h2]
      exact q ρ H (.refl r) trivial
    · have o1 := dat_ok r 20 v d h1
      have o2 := dat_ok r 20 w f h2
      refine .inr ⟨_, _, o1.dp, o2.dp, o1.shaped (by decide), o2.shaped (by decide), ?_⟩
      rw [py_eqv, h3]
      exact q ρ H (.refl r) trivial
theorem r_ne : R2Ok T K .ne (rNeA K) := by
  intro ρ h H v w z h' Q r iv iw e q
  unfold bin at e
  dsimp only at e
  cases g : eqLV h v w with
  | none => rw [g] at e; cases e
  | some b =>
    rw [g] at e
    obtain ⟨rfl, rfl⟩ := okn_eq e
    rcases scal_eq (T := T) (K := K) (ρ := ρ) g with ⟨h1, h2⟩ | ⟨d, f, h1, h2, h3⟩
    · refine .inl ⟨h1, ?_⟩
      rw [h2]
      exact q ρ H (.refl r) trivial
    · have o1 := dat_ok r 20 v d h1
      have o2 := dat_ok r 20 w f h2
      refine .inr ⟨_, _, o1.dp, o2.dp, o1.shaped (by decide), o2.shaped (by decide), ?_⟩
      rw [py_eqv, h3]
      exact q ρ H (.refl r) trivial

/-! ### a[b] -/
/-- d[k] by values -/
def rIxD : R2 := fun x y H Q => ∃ a v, x = .ref a ∧ DGet H a y (some v) ∧ Q v H
theorem ix_dict {X : Cx} (hu : X.A.units + 1 < cLine) : IxR X rIxD := by
  intro value slice pins s σ H x y v u Q I rx ry h hs
  obtain ⟨a, w, ex, g, q⟩ := h
  subst ex
  obtain rfl : v = Value.ref a := rx
  have hT := dict_typeIs I g
  unfold subscriptTail
  refine wpAny_bind ?_
  rw [getitemInPython_of_ne hT.not_modules]
  refine wpAny_bind (wpAny_specialOf hT PySem.F.slot_dict_getitem.lookup ?_)
  have fin : wpAny (model X.prog X.w) X.A (subscripted slice false (.ref a) u) (fun r s₃ => wpAny (model X.prog X.w) X.A (letTemporaryGo value (.ref a) r >>= fun _ => pure r) (EP X pins σ Q) X.xe s₃) X.xe s := by
    rw [hs]
    exact wpAny_operating (d_getItem hu I g ry fun w' s3 I3 rw' => wpAny_bind (wpAny_letTemporaryGo (wpAny_pure ⟨w, H, I3, rw', q⟩)))
  first
    | exact wpAny_pure (wpAny_bind fin)
    | exact wpAny_bind (wpAny_pure (wpAny_bind fin))
    | exact wpAny_bind fin
abbrev rIxA (K : PySem.W.Frag) : R2 := fun x y H Q => ((rIxL K x y H Q ∨ rIxT K x y H Q) ∨ rIxS x y H Q) ∨ rIxD x y H Q
theorem ix_all {X : Cx} (hu : X.A.units + 1 < cLine) : IxR X (rIxA X.K) := IxR.or (IxR.or (IxR.or ix_list ix_tup) ix_str) (ix_dict hu)
theorem keys_find {T : Tab} {K : PySem.W.Frag} {ρ : Nat → Addr} {k : LV} (hk : keyOk k = true) : ∀ {kvs : List (LV × LV)}, (∀ p ∈ kvs, keyOk p.1 = true) → valV (kvs.map fun p => (kx p.1, vx T K ρ p.2)) (kx k) = (L3.getD k kvs).map (vx T K ρ)
  | [], _ => rfl
  | (j, w) :: r, hp => by
    have ih := keys_find (T := T) (K := K) (ρ := ρ) hk (kvs := r) fun p q => hp p (List.mem_cons_of_mem _ q)
    unfold L3.getD
    by_cases e : j = k
    · subst e
      rw [decide_eq_true rfl]
      unfold valV
      rw [List.map_cons, List.find?_cons_of_pos (by simp)]
      rfl
    · rw [decide_eq_false e]
      unfold valV at ih ⊢
      rw [List.map_cons, List.find?_cons_of_neg (by simp only [decide_eq_true_eq]; exact fun z => e (kx_inj (hp (j, w) List.mem_cons_self) hk z))]
      exact ih
theorem getD_mem {k : LV} : ∀ {kvs : List (LV × LV)} {v : LV}, L3.getD k kvs = some v → ∃ p ∈ kvs, p.2 = v
  | [], _, e => by cases e
  | (j, w) :: r, v, e => by
    unfold L3.getD at e
    by_cases c : j = k
    · rw [decide_eq_true c] at e; cases e; exact ⟨_, List.mem_cons_self, rfl⟩
    · rw [decide_eq_false c] at e
      obtain ⟨p, hp, e'⟩ := getD_mem (kvs := r) e
      exact ⟨p, List.mem_cons_of_mem _ hp, e'⟩
theorem dget_of {ρ : Nat → Addr} {h : LH} {H : Hp} (r : Rep T K ρ h H) {a : Nat} {kvs : List (LV × LV)} (g : h.get a = some (.dic kvs)) {k : LV} (hk : keyOk k = true) :
    DGet H (ρ a) (vx T K ρ k) ((L3.getD k kvs).map (vx T K ρ)) := by
  obtain ⟨q1, q2⟩ := rep_dic r g
  rw [← kx_kV (T := T) (K := K) (ρ := ρ) hk, ← keys_find hk fun p hp => (q2 p hp).1]
  exact DGet.k q1
theorem ix_seq {ρ : Nat → Addr} {h : LH} {H : Hp} {Q : VK} (G : GtOk T K) (r : Rep T K ρ h H) {v z : LV} {i : Int} {xs : List LV} (g : seqOf T h v = some xs) (iv : inb h.n v) (e : L3.atI xs i = some z)
    (q : inb h.n z → Q (vx T K ρ z) H) : rIxA K (vx T K ρ v) (.int i) H Q := by
  obtain ⟨q1, p, ep, hp⟩ := seq_of G r g iv
  have iz := q1 z (at_mem e)
  rcases hp with hp | hp
  · exact .inl (.inl (.inl ⟨p, _, i, _, ep, rfl, hp, map_at _ e, q iz⟩))
  · exact .inl (.inl (.inr ⟨p, _, i, _, ep, rfl, hp, map_at _ e, q iz⟩))
theorem r_ix (G : GtOk T K) : R2Ok T K .ix (rIxA K) := by
  intro ρ h H v w z h' Q r iv iw e q
  cases w with
  | int i =>
    have seq : (match seqOf T h v with
        | some xs => match L3.atI xs i with
          | some v => okn v h
          | none => none
        | none => none) = some (z, h') → rIxA K (vx T K ρ v) (vx T K ρ (.int i)) H Q := fun e => by
      cases g : seqOf T h v with
      | none => rw [g] at e; cases e
      | some xs =>
        rw [g] at e
        dsimp only at e
        cases g2 : L3.atI xs i with
        | none => rw [g2] at e; cases e
        | some y =>
          rw [g2] at e
          obtain ⟨rfl, rfl⟩ := okn_eq e
          exact ix_seq G r g iv g2 fun iz => q ρ H (.refl r) iz
    cases v with
    | str s =>
      have e' : (bif fits s.length then (match L3.atI s i with
        | some c => okn (.str [c]) h
        | none => none) else none) = some (z, h') := e
      cases c : fits s.length with
      | false => rw [c] at e'; cases e'
      | true =>
        rw [c] at e'
        dsimp only [cond] at e'
        cases g2 : L3.atI s i with
        | none => rw [g2] at e'; cases e'
        | some y =>
          rw [g2] at e'
          obtain ⟨rfl, rfl⟩ := okn_eq e'
          refine .inl (.inr ⟨_, _, y, rfl, rfl, by rw [len_toStr, line_eq]; have := fits_line c; omega, ?_, q ρ H (.refl r) trivial⟩)
          have := map_at id g2
          rw [List.map_id] at this
          exact this
    | ref a =>
      cases g : h.get a with
      | some o =>
        cases o with
        | dic kvs =>
          have e' : (match h.get a with
            | some (.dic kvs) => match L3.getD (.int i) kvs with
              | some v => okn v h
              | none => none
            | _ => match seqOf T h (.ref a) with
              | some xs => match L3.atI xs i with
                | some v => okn v h
                | none => none
              | none => none) = some (z, h') := e
          rw [g] at e'
          dsimp only at e'
          cases g2 : L3.getD (.int i) kvs with
          | none => rw [g2] at e'; cases e'
          | some y =>
            rw [g2] at e'
            obtain ⟨rfl, rfl⟩ := okn_eq e'
            have d := dget_of r g (k := .int i) rfl
            rw [g2] at d
            obtain ⟨p, hp, rfl⟩ := getD_mem g2
            exact .inr ⟨_, _, rfl, d, q ρ H (.refl r) ((rep_dic r g).2 p hp).2⟩
        | _ =>
          refine seq ?_
          have e' : (match h.get a with
            | some (.dic kvs) => match L3.getD (.int i) kvs with
              | some v => okn v h
              | none => none
            | _ => match seqOf T h (.ref a) with
              | some xs => match L3.atI xs i with
                | some v => okn v h
                | none => none
              | none => none) = some (z, h') := e
          rw [g] at e'
          exact e'
      | none =>
        refine seq ?_
        have e' : (match h.get a with
            | some (.dic kvs) => match L3.getD (.int i) kvs with
              | some v => okn v h
              | none => none
            | _ => match seqOf T h (.ref a) with
              | some xs => match L3.atI xs i with
                | some v => okn v h
                | none => none
              | none => none) = some (z, h') := e
        rw [g] at e'
        exact e'
    | _ => exact seq e
  | str k =>
    cases v with
    | ref a =>
      have e' : (match h.get a with
        | some (.dic kvs) => match L3.getD (.str k) kvs with
          | some v => okn v h
          | none => none
        | _ => none) = some (z, h') := e
      cases g : h.get a with
      | none => rw [g] at e'; cases e'
      | some o =>
        rw [g] at e'
        obtain ⟨kvs, rfl⟩ : ∃ kvs, o = .dic kvs := by cases o <;> first | exact ⟨_, rfl⟩ | (exact nomatch e')
        dsimp only at e'
        cases g2 : L3.getD (.str k) kvs with
        | none => rw [g2] at e'; cases e'
        | some y =>
          rw [g2] at e'
          obtain ⟨rfl, rfl⟩ := okn_eq e'
          have d := dget_of r g (k := .str k) rfl
          rw [g2] at d
          obtain ⟨p, hp, rfl⟩ := getD_mem g2
          exact .inr ⟨_, _, rfl, d, q ρ H (.refl r) ((rep_dic r g).2 p hp).2⟩
    | _ => cases e
  | _ => cases v <;> cases e
end
end L3

/-! L3E: the context of a def's body; what an expression's translation is to show; names, constants, operators, tests. -/
set_option autoImplicit false
set_option linter.all false
set_option maxRecDepth 100000
set_option maxHeartbeats 1000000
namespace L3
open PySem PyProof.Rows L2

structure FnI where
  at_ : Str × Option Str
  ps : List Str
  dfl : List LV
/-- what is told of a program -/
structure PD where
  T : Tab
  fns : List FnI
  glos : List Str
  frees : List Str
  okf : Nat → Bool
  /-- functions that are read off a class by its name: the class, the method, the function -/
  sups : List (Str × Str × Nat)
  /-- exceptions' classes -/
  okx : Nat → Bool

def cad (T : Tab) (K : PySem.W.Frag) (c : Nat) : Addr := He.ga K (T.gn (T.cg c))
def spF (T : Tab) (K : PySem.W.Frag) (D : Hd Prop) (f np : Nat) : Sp := fun vs H Q E => ∃ ρ h lvs k x, vs = lvs.map (vx T K ρ) ∧ lvs.length = np ∧ (∀ v ∈ lvs, inb h.n v) ∧ Rep T K ρ h H ∧ D.call f lvs h k x ∧ KOk T K ρ h H Q k ∧ XOk T K ρ h H E x

def tyV' (T : Tab) (K : PySem.W.Frag) : Ty → V
  | .int => .ty "int" | .bool => .ty "bool" | .str => .ty "str" | .list => .ty "list" | .tuple => .ty "tuple" | .dict => .ty "dict" | .own c => .ref (cad T K c)
def tyU (T : Tab) (K : PySem.W.Frag) : Ty → Value
  | .int => .type "int" | .bool => .type "bool" | .str => .type "str" | .list => .type "list" | .tuple => .type "tuple" | .dict => .type "dict" | .own c => .ref (cad T K c)
def vtU (T : Tab) (K : PySem.W.Frag) : Vt → Value
  | .non => .type "NoneType"
  | .ty t => tyU T K t
def vtOk (pd : PD) : Vt → Bool
  | .ty (.own c) => pd.T.okc c
  | _ => true
def tyOk (pd : PD) : Ty → Bool
  | .own c => pd.T.okc c
  | _ => true

/-- the heap's cleaning keeps what it stands for -/
def GcOk (gc : Nat → (St → LH → Prop) → St → LH → Prop) : Prop := ∀ (b : Nat) (kk : St → LH → Prop) (s : St) (h : LH), gc b kk s h → h.os.length = h.n → b ≤ h.n →
  ∃ s' h', kk s' h' ∧ b ≤ h'.n ∧ ∀ (T : Tab) (K : PySem.W.Frag) (ρ : Nat → Addr) (H : Hp) (σ : L2.St), Rep T K ρ h H → SRel T K ρ h.n s σ → ∃ ρ', Ext b ρ ρ' ∧ Rep T K ρ' h' H ∧ SRel T K ρ' h'.n s' σ ∧ ∀ a, a < h'.n → ∃ c, c < h.n ∧ ρ' a = ρ c
/-- what the top has laid -/
structure PgS (pd : PD) (K : PySem.W.Frag) (mg : Str → Option Value) : Prop where
  fnj : ∀ f g, pd.T.fn f = pd.T.fn g → f = g
  fmn : ∀ f m, pd.T.fn f ≠ pd.T.mn m
  gt : GtOk pd.T K
  glo : ∀ x, x ∈ pd.glos → mg x = some (.ref (He.ga K x))
  free : ∀ x, x ∈ pd.frees → mg x = none
  dfl : ∀ (f : Nat) (F : FnI), pd.fns[f]? = some F → F.dfl.all flat = true
  fkp : ∀ (f : Nat) (F : FnI), pd.fns[f]? = some F → PySem.W.keepIn K (.ref (He.fAd K F.at_)) = true
  sup : ∀ x m f, (x, m, f) ∈ pd.sups → ∃ F : FnI, pd.fns[f]? = some F ∧ PySem.W.readsIn K (He.ga K x) (.type "type") = true ∧
    PySem.W.specialIn K (.ref (He.ga K x)) "__getattribute__" = some (some (.builtin "type.__getattribute__")) ∧ PySem.W.findCls K (.ref (He.ga K x)) (.type "type") m = some (.val (.ref (He.fAd K F.at_)))
  cls : ∀ c, pd.T.okc c = true → Cls K (cad pd.T K c)
  noat : ∀ c f, pd.T.okc c = true → pd.okf f = true → NoAttr K (cad pd.T K c) (pd.T.fn f)
  meth : ∀ c m f, pd.T.okc c = true → pd.T.mth c m = some f → ∃ F, pd.fns[f]? = some F ∧ L2.Meth K (cad pd.T K c) (pd.T.mn m) (He.fAd K F.at_)
  made : ∀ c f, pd.T.okc c = true → pd.T.ini c = some f → ∃ F, pd.fns[f]? = some F ∧ Mk K (cad pd.T K c) (He.fAd K F.at_)
  isa : ∀ t c, vtOk pd t = true → tyOk pd c = true → PySem.W.kitOne K (vtU pd.T K t) (tyU pd.T K c) = some (vtSub pd.T t c)
  ins : ∀ c, pd.T.okc c = true → PySem.W.findIn K (.ref (cad pd.T K c)) "__class__" = some (some (.builtin "object.__class__")) ∧
    PySem.W.specialIn K (.builtin "object.__class__") "__get__" = some (some (.builtin "getset_descriptor.__get__")) ∧ PySem.W.takesIn K (.builtin "object.__class__") = some true ∧
    PySem.W.mroIn K (cad pd.T K c) (.type "object") = some true
structure Pg (pd : PD) (D : Hd Prop) (P : Program) (w : World) (K : PySem.W.Frag) (mg : Str → Option Value) (base : Heap) (lev : Nat) : Prop extends PgS pd K mg where
  dt : D.T = pd.T
  gc : GcOk D.gc
  fn : ∀ (f : Nat) (F : FnI), pd.fns[f]? = some F → ∃ fd, FnOk P w K mg base (L2.CX P w) lev (He.fAd K F.at_) fd F.ps (spF pd.T K D f F.ps.length) ∧
    ∀ j, j ≤ F.dfl.length → ∃ ds, Vals ((F.dfl.drop j).map (vx pd.T K fun _ => 0)) ds ∧ Binds K fd F.ps ds
  arity : ∀ (f : Nat) (F : FnI) lvs h k x, pd.fns[f]? = some F → D.call f lvs h k x → ¬ x .bad → lvs.length = F.ps.length

/-- a name's kind in a block's scope, as far as told -/
def visB (sc : Scope) (x : Str) : Bool := match sc.names.lookup x with
  | some .local => true | some .cell => true | some .free => true | _ => false
def locB (sc : Scope) (x : Str) : Bool := match sc.names.lookup x with
  | some .local => true | some .cell => true | _ => false
def gloB (sc : Scope) (x : Str) : Bool := match sc.names.lookup x with
  | some .globalImplicit => true | _ => false
def celB (sc : Scope) (x : Str) : Bool := match sc.names.lookup x with
  | some .cell => true | some .free => true | _ => false
def dbgB (x : Str) : Bool := !(x == ("__debug__" : Str)) && !(x == ("__classdict__" : Str)) && !(x == ("__name__" : Str))

structure Good (pd : PD) (D : Hd Prop) (lev : Nat) (sc : Scope) (N : List Str) (X : Cx) (W : WX) : Prop where
  pg : Pg pd D X.prog X.w X.K X.mg X.base lev
  room : Room (lev + 1) X.A
  calm : X.calm = true
  tk : Takes X W
  nd : X.N.Nodup
  nn : X.N = N
  vis : ∀ x, visB sc x = true → Vis X.env.scope x
  loc : ∀ x, locB sc x = true → Loc X.env.scope x ∧ (X.fn x = true ∨ X.env.scope.names.lookup x = some .local)
  glo : ∀ x, gloB sc x = true → Gl X x
  cel : ∀ x, celB sc x = true → X.env.scope.names.lookup x = some .cell ∨ X.env.scope.names.lookup x = some .free
section
variable {pd : PD} {D : Hd Prop} {lev : Nat} {sc : Scope} {N : List Str} {X : Cx} {W : WX}
theorem Good.units (G : Good pd D lev sc N X W) : X.A.units + 64 < cLine := G.room.units
theorem Good.hu (G : Good pd D lev sc N X W) : X.A.units + 1 < cLine := by have := G.units; omega
theorem dbg_d {x : Str} (h : dbgB x = true) : (x == ("__debug__" : Str)) = false := by
  unfold dbgB at h
  simp only [Bool.and_eq_true, Bool.not_eq_true'] at h
  exact h.1.1
theorem dbg_c {x : Str} (h : dbgB x = true) : (x == ("__classdict__" : Str)) = false := by
  unfold dbgB at h
  simp only [Bool.and_eq_true, Bool.not_eq_true'] at h
  exact h.1.2
theorem dbg_n {x : Str} (h : dbgB x = true) : x ≠ "__name__" := by
  unfold dbgB at h
  simp only [Bool.and_eq_true, Bool.not_eq_true'] at h
  exact beq_eq_false_iff_ne.mp h.2
end

/-- an expression's translation -/
structure Snd (pd : PD) (D : Hd Prop) (lev : Nat) (sc : Scope) (N : List Str) (e : Expr) (ie : IE) : Prop where
  ns : ∀ es env, starEach (e :: es) env = (false, eval e env) :: starEach es env
  pe : ∀ X W, Good pd D lev sc N X W → PE X e (tE pd.T X.K D W ie)
/-- as a test: a bool -/
structure SndT (pd : PD) (D : Hd Prop) (lev : Nat) (sc : Scope) (N : List Str) (e : Expr) (ie : IE) : Prop where
  pt : ∀ X W, Good pd D lev sc N X W → PT X e (tB (tE pd.T X.K D W ie))
structure SndA (pd : PD) (D : Hd Prop) (lev : Nat) (sc : Scope) (N : List Str) (es : List Expr) (ies : IEs) : Prop where
  pa : ∀ X W, Good pd D lev sc N X W → PA X es (tEs pd.T X.K D W ies)
  len : ∀ {R : Type} (D : Hd R) (s : St) (h : LH) (k : List LV → LH → R) (x : XO → R), rEs D ies s h k x = rEs D ies s h (fun vs h' => bif Nat.beq vs.length es.length then k vs h' else x .bad) x

section
variable {pd : PD} {D : Hd Prop} {lev : Nat} {sc : Scope} {N : List Str}
/-! ### names, constants -/
theorem snd_var {i : Nat} {x : Str} {pos : Pos} (hN : N[i]? = some x) (hv : visB sc x = true) (hd : dbgB x = true) : Snd pd D lev sc N (.Name x pos) (.var i) where
  ns := fun _ _ => rfl
  pe := fun X W G => PE.imp (pe_var (by rw [G.nn]; exact hN) (G.vis x hv) (dbg_d hd) (dbg_c hd)) fun σ H Q q => by
    obtain ⟨ρ, s, h, k, x, hs, hr, e, hk, hx⟩ := q
    have e : (match s[i]? with
      | some (some v) => k v h
      | _ => x .bad) := e
    cases g : s[i]? with
    | none => rw [g] at e; exact (hx _ e).elim
    | some o =>
      cases o with
      | none => rw [g] at e; exact (hx _ e).elim
      | some v =>
        rw [g] at e
        obtain ⟨iv, ev⟩ := hs.at_ i v g
        exact ⟨_, ev, hk v h e ρ H (.refl hr) iv⟩
theorem con_of {T : Tab} {K : PySem.W.Frag} {W : WX} {v : LV} {u : V} {σ : L2.St} {H : Hp} {Q : VK} (q : tE T K D W (.con v) σ H Q) (hv : ∀ ρ, vx T K ρ v = u) (hi : ∀ n, inb n v) : tC u σ H Q := by
  obtain ⟨ρ, s, h, k, x, hs, hr, e, hk, hx⟩ := q
  show Q u H
  rw [← hv ρ]
  exact hk v h e ρ H (.refl hr) (hi _)
theorem snd_int {i : Int} {j : Nat} {pos : Pos} : Snd pd D lev sc N (.Constant (.int i) j pos) (.con (.int i)) := ⟨fun _ _ => rfl, fun X W G => PE.imp pe_int fun _ _ _ q => con_of q (fun _ => rfl) (fun _ => trivial)⟩
theorem snd_bool {i : Bool} {j : Nat} {pos : Pos} : Snd pd D lev sc N (.Constant (.bool i) j pos) (.con (.bl i)) := ⟨fun _ _ => rfl, fun X W G => PE.imp pe_bl fun _ _ _ q => con_of q (fun _ => rfl) (fun _ => trivial)⟩
theorem snd_none {j : Nat} {pos : Pos} : Snd pd D lev sc N (.Constant .none j pos) (.con .non) := ⟨fun _ _ => rfl, fun X W G => PE.imp pe_non fun _ _ _ q => con_of q (fun _ => rfl) (fun _ => trivial)⟩
theorem snd_str {x : Str} {j : Nat} {pos : Pos} : Snd pd D lev sc N (.Constant (.str x) j pos) (.con (.str x.cps.toList)) := ⟨fun _ _ => rfl, fun X W G => PE.imp pe_str fun _ _ _ q => con_of q (fun _ => rfl) (fun _ => trivial)⟩
/-- a global object -/
theorem snd_glob {i : Nat} {x : Str} {pos : Pos} (hx : pd.T.gn i = x) (hm : x ∈ pd.glos) (hg : gloB sc x = true) (hd : dbgB x = true) : Snd pd D lev sc N (.Name x pos) (.con (.gl i)) :=
  ⟨fun _ _ => rfl, fun X W G => PE.imp (pe_glob (v := .ref (He.ga X.K x)) (G.glo x hg) (G.pg.glo x hm) rfl (dbg_d hd)) fun _ _ _ q => con_of q (fun _ => by show V.ref (He.ga X.K (pd.T.gn i)) = _; rw [hx]) (fun _ => trivial)⟩

/-! ### operators -/
theorem snd_bin {a b : Expr} {x y : IE} {op : Operator} {p : P} {pos : Pos} {r : Cx → R2} (ha : Snd pd D lev sc N a x) (hb : Snd pd D lev sc N b y) (ho : ∀ X W, Good pd D lev sc N X W → OpR X (binaryOp op) (r X))
    (ok : ∀ X W, Good pd D lev sc N X W → R2Ok pd.T X.K p (r X)) (hp : ∀ T v w h, prim T p [v, w] h = bin T p v w h) : Snd pd D lev sc N (.BinOp a op b pos) (.prim p (.cons x (.cons y .nil))) :=
  ⟨fun _ _ => rfl, fun X W G => PE.imp (pe_op (ho X W G) (ha.pe X W G) (hb.pe X W G)) fun _ _ _ q => tOp_of G.pg.dt (ok X W G) (hp _) q⟩
theorem snd_cmp {a b : Expr} {x y : IE} {op : CmpOp} {p : P} {pos : Pos} {r : Cx → R2} (ha : Snd pd D lev sc N a x) (hb : Snd pd D lev sc N b y) (ho : ∀ X W, Good pd D lev sc N X W → OpR X (compareOp op) (r X))
    (ok : ∀ X W, Good pd D lev sc N X W → R2Ok pd.T X.K p (r X)) (hp : ∀ T v w h, prim T p [v, w] h = bin T p v w h) (hm : behindInMarks op b = false) : Snd pd D lev sc N (.Compare a [op] [b] pos) (.prim p (.cons x (.cons y .nil))) :=
  ⟨fun _ _ => rfl, fun X W G => PE.imp (pe_cmpR (ho X W G) (ha.pe X W G) (hb.pe X W G) hm) fun _ _ _ q => tOp_of G.pg.dt (ok X W G) (hp _) q⟩
theorem sndT_cmp {a b : Expr} {x y : IE} {op : CmpOp} {p : P} {pos : Pos} {r : Cx → R2} (ha : Snd pd D lev sc N a x) (hb : Snd pd D lev sc N b y) (ho : ∀ X W, Good pd D lev sc N X W → OpR X (compareOp op) (r X))
    (ok : ∀ X W, Good pd D lev sc N X W → R2Ok pd.T X.K p (r X)) (hp : ∀ T v w h, prim T p [v, w] h = bin T p v w h) (hm : behindInMarks op b = false) : SndT pd D lev sc N (.Compare a [op] [b] pos) (.prim p (.cons x (.cons y .nil))) :=
  ⟨fun X W G => PT.imp (pt_cmpR (ho X W G) (ha.pe X W G) (hb.pe X W G) hm) fun _ _ _ q => tOp_of G.pg.dt (ok X W G) (hp _) q⟩
theorem snd_ix {a b : Expr} {x y : IE} {pos : Pos} (ha : Snd pd D lev sc N a x) (hb : Snd pd D lev sc N b y) (hs : PlainIx b) : Snd pd D lev sc N (.Subscript a b pos) (.prim .ix (.cons x (.cons y .nil))) :=
  ⟨fun _ _ => rfl, fun X W G => PE.imp (pe_ix (ix_all G.hu) (ha.pe X W G) (hb.pe X W G) hs) fun _ _ _ q => tOp_of G.pg.dt (r_ix G.pg.gt) (fun _ _ _ => rfl) q⟩
/-- x is None -/
theorem isN_of {T : Tab} {K : PySem.W.Frag} {W : WX} {a : IE} (hT : D.T = T) {σ : L2.St} {H : Hp} {Q : VK} (q : tE T K D W (.prim .isN (.cons a .nil)) σ H Q) : tIsN (tE T K D W a) σ H Q := by
  obtain ⟨ρ, s, h, k, x, hs, hr, e, hk, hx⟩ := q
  refine ⟨ρ, s, h, _, x, hs, hr, e, fun v h1 e1 ρ1 H1 g1 iv => ?_, hx⟩
  have e1 : k (.bl (decide (v = .non))) h1 := e1
  have := hk _ _ e1 ρ1 H1 g1 trivial
  have c : decide (vx T K ρ1 v = V.non) = decide (v = .non) := by cases v <;> rfl
  show Q (.bl (decide (vx T K ρ1 v = V.non))) H1
  rw [c]
  exact this
theorem notN_of {T : Tab} {K : PySem.W.Frag} {W : WX} {a : IE} (hT : D.T = T) {σ : L2.St} {H : Hp} {Q : VK} (q : tE T K D W (.prim .notN (.cons a .nil)) σ H Q) : tNotN (tE T K D W a) σ H Q := by
  obtain ⟨ρ, s, h, k, x, hs, hr, e, hk, hx⟩ := q
  refine ⟨ρ, s, h, _, x, hs, hr, e, fun v h1 e1 ρ1 H1 g1 iv => ?_, hx⟩
  have e1 : k (.bl (!decide (v = .non))) h1 := e1
  have := hk _ _ e1 ρ1 H1 g1 trivial
  have c : decide (vx T K ρ1 v = V.non) = decide (v = .non) := by cases v <;> rfl
  show Q (.bl (!decide (vx T K ρ1 v = V.non))) H1
  rw [c]
  exact this
theorem snd_isN {a : Expr} {x : IE} {j : Nat} {p' pos : Pos} (ha : Snd pd D lev sc N a x) : Snd pd D lev sc N (.Compare a [.Is] [.Constant .none j p'] pos) (.prim .isN (.cons x .nil)) :=
  ⟨fun _ _ => rfl, fun X W G => PE.imp (pe_cmp (pc_isN (ha.pe X W G))) fun _ _ _ q => isN_of G.pg.dt q⟩
theorem sndT_isN {a : Expr} {x : IE} {j : Nat} {p' pos : Pos} (ha : Snd pd D lev sc N a x) : SndT pd D lev sc N (.Compare a [.Is] [.Constant .none j p'] pos) (.prim .isN (.cons x .nil)) :=
  ⟨fun X W G => PT.imp (pt_cmp (pc_isN (ha.pe X W G))) fun _ _ _ q => isN_of G.pg.dt q⟩
theorem snd_notN {a : Expr} {x : IE} {j : Nat} {p' pos : Pos} (ha : Snd pd D lev sc N a x) : Snd pd D lev sc N (.Compare a [.IsNot] [.Constant .none j p'] pos) (.prim .notN (.cons x .nil)) :=
  ⟨fun _ _ => rfl, fun X W G => PE.imp (pe_cmp (pc_notN (ha.pe X W G))) fun _ _ _ q => notN_of G.pg.dt q⟩
theorem sndT_notN {a : Expr} {x : IE} {j : Nat} {p' pos : Pos} (ha : Snd pd D lev sc N a x) : SndT pd D lev sc N (.Compare a [.IsNot] [.Constant .none j p'] pos) (.prim .notN (.cons x .nil)) :=
  ⟨fun X W G => PT.imp (pt_cmp (pc_notN (ha.pe X W G))) fun _ _ _ q => notN_of G.pg.dt q⟩
/-- a < b < c -/
theorem chain_of {T : Tab} {K : PySem.W.Frag} {W : WX} {p p' : P} {r r' : R2} {a b c : IE} (hT : D.T = T) (ok : R2Ok T K p r) (ok' : R2Ok T K p' r') {σ : L2.St} {H : Hp} {Q : VK}
    (q : tE T K D W (.chain p p' a b c) σ H Q) : tChain r r' (tE T K D W a) (tE T K D W b) (tE T K D W c) σ H Q := by
  obtain ⟨ρ, s, h, k, x, hs, hr, e, hk, hx⟩ := q
  refine ⟨ρ, s, h, _, x, hs, hr, e, fun v h1 e1 ρ1 H1 g1 iv => ?_, hx⟩
  refine ⟨ρ1, s, h1, _, x, hs.go g1, g1.rep, e1, fun w h2 e2 ρ2 H2 g2 iw => ?_, hx.back g1⟩
  rw [← vx_ext g2.ext iv]
  have e2 : (match (generalizing := false) bin D.T p v w h2 with
    | some (.bl true, h3) => rE D c s h3 (fun u h4 => match bin D.T p' w u h4 with
      | some (z, h5) => k z h5
      | none => x .bad) x
    | some (.bl false, h3) => k (.bl false) h3
    | _ => x .bad) := e2
  rw [hT] at e2
  cases hb : bin T p v w h2 with
  | none => rw [hb] at e2; exact (hx _ e2).elim
  | some z =>
    obtain ⟨z, h3⟩ := z
    rw [hb] at e2
    have bad : x .bad → False := fun y => (hx _ y).elim
    cases z with
    | bl d =>
      refine ok ρ2 h2 H2 v w (.bl d) h3 _ g2.rep (inb_mono iv g2.le) iw hb fun ρ3 H3 g3 _ => ⟨d, rfl, ?_⟩
      cases d with
      | false => exact hk _ _ e2 ρ3 H3 (g1.trans (g2.trans g3)) trivial
      | true =>
        refine ⟨ρ3, s, h3, _, x, ((hs.go g1).go g2).go g3, g3.rep, e2, fun u h4 e4 ρ4 H4 g4 iu => ?_, ((hx.back g1).back g2).back g3⟩
        rw [← vx_ext g3.ext iw, ← vx_ext g4.ext (inb_mono iw g3.le)]
        have e4 : (match (generalizing := false) bin T p' w u h4 with
          | some (z, h5) => k z h5
          | none => x .bad) := e4
        cases hb2 : bin T p' w u h4 with
        | none => rw [hb2] at e4; exact (bad e4).elim
        | some y =>
          obtain ⟨y, h5⟩ := y
          rw [hb2] at e4
          exact ok' ρ4 h4 H4 w u y h5 Q g4.rep (inb_mono iw (Nat.le_trans g3.le g4.le)) iu hb2 fun ρ5 H5 g5 iy => hk y h5 e4 ρ5 H5 (g1.trans (g2.trans (g3.trans (g4.trans g5)))) iy
    | _ => exact (bad e2).elim
theorem snd_chain {a b c : Expr} {x y z : IE} {op op' : CmpOp} {p p' : P} {pos : Pos} {r r' : Cx → R2} (ha : Snd pd D lev sc N a x) (hb : Snd pd D lev sc N b y) (hc : Snd pd D lev sc N c z)
    (ho : ∀ X W, Good pd D lev sc N X W → OpR X (compareOp op) (r X)) (ok : ∀ X W, Good pd D lev sc N X W → R2Ok pd.T X.K p (r X))
    (ho' : ∀ X W, Good pd D lev sc N X W → OpR X (compareOp op') (r' X)) (ok' : ∀ X W, Good pd D lev sc N X W → R2Ok pd.T X.K p' (r' X)) (hm : lastMarks [op, op'] [b, c] = false) : Snd pd D lev sc N (.Compare a [op, op'] [b, c] pos) (.chain p p' x y z) :=
  ⟨fun _ _ => rfl, fun X W G => PE.imp (pe_chain (ho X W G) (ho' X W G) (ha.pe X W G) (hb.pe X W G) (hc.pe X W G) hm) fun _ _ _ q => chain_of G.pg.dt (ok X W G) (ok' X W G) q⟩
theorem sndT_chain {a b c : Expr} {x y z : IE} {op op' : CmpOp} {p p' : P} {pos : Pos} {r r' : Cx → R2} (ha : Snd pd D lev sc N a x) (hb : Snd pd D lev sc N b y) (hc : Snd pd D lev sc N c z)
    (ho : ∀ X W, Good pd D lev sc N X W → OpR X (compareOp op) (r X)) (ok : ∀ X W, Good pd D lev sc N X W → R2Ok pd.T X.K p (r X))
    (ho' : ∀ X W, Good pd D lev sc N X W → OpR X (compareOp op') (r' X)) (ok' : ∀ X W, Good pd D lev sc N X W → R2Ok pd.T X.K p' (r' X)) (hm : lastMarks [op, op'] [b, c] = false) : SndT pd D lev sc N (.Compare a [op, op'] [b, c] pos) (.chain p p' x y z) :=
  ⟨fun X W G => PT.imp (pt_chain (ho X W G) (ho' X W G) (ha.pe X W G) (hb.pe X W G) (hc.pe X W G) hm) fun _ _ _ q => chain_of G.pg.dt (ok X W G) (ok' X W G) q⟩

/-! ### and, or, not, if else -/
theorem and_of {T : Tab} {K : PySem.W.Frag} {W : WX} {a b : IE} {σ : L2.St} {H : Hp} {Q : VK} (q : tE T K D W (.and a b) σ H Q) : tAndV (tE T K D W a) (tE T K D W b) σ H Q := by
  obtain ⟨ρ, s, h, k, x, hs, hr, e, hk, hx⟩ := q
  refine ⟨ρ, s, h, _, x, hs, hr, e, fun v h1 e1 ρ1 H1 g1 iv => ?_, hx⟩
  have e1 : (match (generalizing := false) v with
    | .bl true => rE D b s h1 k x
    | .bl false => k (.bl false) h1
    | _ => x .bad) := e1
  cases v with
  | bl c =>
    refine ⟨c, rfl, ?_⟩
    cases c with
    | true => rw [if_pos rfl]; exact ⟨ρ1, s, h1, k, x, hs.go g1, g1.rep, e1, hk.back g1, hx.back g1⟩
    | false => rw [if_neg (by decide)]; exact hk _ _ e1 ρ1 H1 g1 trivial
  | _ => exact (hx _ e1).elim
theorem or_of {T : Tab} {K : PySem.W.Frag} {W : WX} {a b : IE} {σ : L2.St} {H : Hp} {Q : VK} (q : tE T K D W (.or a b) σ H Q) : tOrV (tE T K D W a) (tE T K D W b) σ H Q := by
  obtain ⟨ρ, s, h, k, x, hs, hr, e, hk, hx⟩ := q
  refine ⟨ρ, s, h, _, x, hs, hr, e, fun v h1 e1 ρ1 H1 g1 iv => ?_, hx⟩
  have e1 : (match (generalizing := false) v with
    | .bl true => k (.bl true) h1
    | .bl false => rE D b s h1 k x
    | _ => x .bad) := e1
  cases v with
  | bl c =>
    refine ⟨c, rfl, ?_⟩
    cases c with
    | true => rw [if_pos rfl]; exact hk _ _ e1 ρ1 H1 g1 trivial
    | false => rw [if_neg (by decide)]; exact ⟨ρ1, s, h1, k, x, hs.go g1, g1.rep, e1, hk.back g1, hx.back g1⟩
  | _ => exact (hx _ e1).elim
theorem snd_and {a b : Expr} {es : List Expr} {x y : IE} {pos : Pos} (ha : Snd pd D lev sc N a x) (hb : Snd pd D lev sc N (.BoolOp .And (b :: es) pos) y) : Snd pd D lev sc N (.BoolOp .And (a :: b :: es) pos) (.and x y) :=
  ⟨fun _ _ => rfl, fun X W G => PE.imp (pe_and (ha.pe X W G) (hb.pe X W G)) fun _ _ _ q => and_of q⟩
theorem snd_or {a b : Expr} {es : List Expr} {x y : IE} {pos : Pos} (ha : Snd pd D lev sc N a x) (hb : Snd pd D lev sc N (.BoolOp .Or (b :: es) pos) y) : Snd pd D lev sc N (.BoolOp .Or (a :: b :: es) pos) (.or x y) :=
  ⟨fun _ _ => rfl, fun X W G => PE.imp (pe_or (ha.pe X W G) (hb.pe X W G)) fun _ _ _ q => or_of q⟩
theorem snd_one {a : Expr} {op : BoolOp} {x : IE} {pos : Pos} (ha : Snd pd D lev sc N a x) : Snd pd D lev sc N (.BoolOp op [a] pos) x :=
  ⟨fun _ _ => rfl, fun X W G => pe_one (ha.pe X W G)⟩
/-- a row of tests, within a bool operator -/
structure SndW (pd : PD) (D : Hd Prop) (lev : Nat) (sc : Scope) (N : List Str) (e : Expr) (ie : IE) : Prop where
  pw : ∀ X W, Good pd D lev sc N X W → PW X e (tB (tE pd.T X.K D W ie))
theorem sndW_and1 {a : Expr} {x : IE} {pos : Pos} (ha : SndT pd D lev sc N a x) : SndW pd D lev sc N (.BoolOp .And [a] pos) x := ⟨fun X W G => pw_and1 (ha.pt X W G)⟩
theorem sndW_or1 {a : Expr} {x : IE} {pos : Pos} (ha : SndT pd D lev sc N a x) : SndW pd D lev sc N (.BoolOp .Or [a] pos) x := ⟨fun X W G => pw_or1 (ha.pt X W G)⟩
theorem sndW_and {a b : Expr} {es : List Expr} {x y : IE} {pos : Pos} (ha : SndT pd D lev sc N a x) (hb : SndW pd D lev sc N (.BoolOp .And (b :: es) pos) y) : SndW pd D lev sc N (.BoolOp .And (a :: b :: es) pos) (.and x y) :=
  ⟨fun X W G => PW.imp (pw_and (ha.pt X W G) (hb.pw X W G)) fun σ H Q q => by
    obtain ⟨ρ, s, h, k, x, hs, hr, e, hk, hx⟩ := q
    refine ⟨ρ, s, h, _, x, hs, hr, e, fun v h1 e1 ρ1 H1 g1 iv => ?_, hx⟩
    have e1 : (match (generalizing := false) v with
      | .bl true => rE D y s h1 k x
      | .bl false => k (.bl false) h1
      | _ => x .bad) := e1
    cases v with
    | bl c =>
      refine ⟨c, rfl, ?_⟩
      cases c with
      | true => rw [if_pos rfl]; exact ⟨ρ1, s, h1, k, x, hs.go g1, g1.rep, e1, hk.back g1, hx.back g1⟩
      | false =>
        rw [if_neg (by decide)]
        obtain ⟨c', ec, q⟩ := hk _ _ e1 ρ1 H1 g1 trivial
        cases ec
        exact q
    | _ => exact (hx _ e1).elim⟩
theorem sndW_or {a b : Expr} {es : List Expr} {x y : IE} {pos : Pos} (ha : SndT pd D lev sc N a x) (hb : SndW pd D lev sc N (.BoolOp .Or (b :: es) pos) y) : SndW pd D lev sc N (.BoolOp .Or (a :: b :: es) pos) (.or x y) :=
  ⟨fun X W G => PW.imp (pw_or (ha.pt X W G) (hb.pw X W G)) fun σ H Q q => by
    obtain ⟨ρ, s, h, k, x, hs, hr, e, hk, hx⟩ := q
    refine ⟨ρ, s, h, _, x, hs, hr, e, fun v h1 e1 ρ1 H1 g1 iv => ?_, hx⟩
    have e1 : (match (generalizing := false) v with
      | .bl true => k (.bl true) h1
      | .bl false => rE D y s h1 k x
      | _ => x .bad) := e1
    cases v with
    | bl c =>
      refine ⟨c, rfl, ?_⟩
      cases c with
      | true =>
        rw [if_pos rfl]
        obtain ⟨c', ec, q⟩ := hk _ _ e1 ρ1 H1 g1 trivial
        cases ec
        exact q
      | false => rw [if_neg (by decide)]; exact ⟨ρ1, s, h1, k, x, hs.go g1, g1.rep, e1, hk.back g1, hx.back g1⟩
    | _ => exact (hx _ e1).elim⟩
theorem SndW.t {e : Expr} {ie : IE} (h : SndW pd D lev sc N e ie) : SndT pd D lev sc N e ie := ⟨fun X W G => (h.pw X W G).pt⟩
theorem not_of' {T : Tab} {K : PySem.W.Frag} {W : WX} {a : IE} {σ : L2.St} {H : Hp} {Q : VK} (q : tE T K D W (.prim .not (.cons a .nil)) σ H Q) :
    tE T K D W a σ H fun x H1 => ∃ c, x = .bl c ∧ Q (.bl (!c)) H1 := by
  obtain ⟨ρ, s, h, k, x, hs, hr, e, hk, hx⟩ := q
  refine ⟨ρ, s, h, _, x, hs, hr, e, fun v h1 e1 ρ1 H1 g1 iv => ?_, hx⟩
  cases v with
  | bl c => exact ⟨c, rfl, hk (.bl (!c)) h1 e1 ρ1 H1 g1 trivial⟩
  | _ => exact (hx _ e1).elim
theorem snd_not {a : Expr} {x : IE} {pos : Pos} (ha : Snd pd D lev sc N a x) : Snd pd D lev sc N (.UnaryOp .Not a pos) (.prim .not (.cons x .nil)) :=
  ⟨fun _ _ => rfl, fun X W G => PE.imp (pe_not (ha.pe X W G)) fun _ _ _ q => not_of' q⟩
theorem tE_mono {T : Tab} {K : PySem.W.Frag} {W : WX} {a : IE} {σ : L2.St} {H : Hp} {Q Q' : VK} (w : ∀ v H, Q v H → Q' v H) (q : tE T K D W a σ H Q) : tE T K D W a σ H Q' := by
  obtain ⟨ρ, s, h, k, x, hs, hr, e, hk, hx⟩ := q
  exact ⟨ρ, s, h, k, x, hs, hr, e, fun v h' e' ρ' H' g i => w _ _ (hk v h' e' ρ' H' g i), hx⟩
theorem sndT_not {a : Expr} {x : IE} {pos : Pos} (ha : SndT pd D lev sc N a x) : SndT pd D lev sc N (.UnaryOp .Not a pos) (.prim .not (.cons x .nil)) :=
  ⟨fun X W G => PT.imp (pt_not (ha.pt X W G)) fun σ H Q q => by
    refine tE_mono (fun v H1 z => ?_) (not_of' q)
    obtain ⟨c, rfl, c', ec, q'⟩ := z
    cases ec
    exact ⟨c, rfl, q'⟩⟩
/-- any other expression as a test -/
def plainT : Expr → Bool
  | .UnaryOp .Not _ _ | .BoolOp _ _ _ | .IfExp _ _ _ _ | .Compare _ _ _ _ => false
  | _ => true
theorem plainT_ok {e : Expr} (h : plainT e = true) (env : Env) : ∀ whole, isTrue e env whole = (do let v ← whole; standAt e.pos; holding [v] (truthy v)) := by
  intro whole
  cases e with
  | UnaryOp op a p => cases op <;> first | rfl | cases h
  | BoolOp _ _ _ => cases h
  | IfExp _ _ _ _ => cases h
  | Compare _ _ _ _ => cases h
  | _ => rfl
theorem sndT_val {e : Expr} {x : IE} (ha : Snd pd D lev sc N e x) (h : plainT e = true) : SndT pd D lev sc N e x := ⟨fun X W G => pt_val (ha.pe X W G) (plainT_ok h X.env)⟩
theorem snd_ife {t a b : Expr} {x y z : IE} {pos : Pos} (ht : SndT pd D lev sc N t x) (ha : Snd pd D lev sc N a y) (hb : Snd pd D lev sc N b z) : Snd pd D lev sc N (.IfExp t a b pos) (.ife x y z) :=
  ⟨fun _ _ => rfl, fun X W G => PE.imp (pe_ifExp (ht.pt X W G) (ha.pe X W G) (hb.pe X W G)) fun σ H Q q => by
    obtain ⟨ρ, s, h, k, x', hs, hr, e, hk, hx⟩ := q
    refine ⟨ρ, s, h, _, x', hs, hr, e, fun v h1 e1 ρ1 H1 g1 iv => ?_, hx⟩
    have e1 : (match (generalizing := false) v with
      | .bl true => rE D y s h1 k x'
      | .bl false => rE D z s h1 k x'
      | _ => x' .bad) := e1
    cases v with
    | bl c =>
      refine ⟨c, rfl, ?_⟩
      cases c with
      | true => rw [if_pos rfl]; exact ⟨ρ1, s, h1, k, x', hs.go g1, g1.rep, e1, hk.back g1, hx.back g1⟩
      | false => rw [if_neg (by decide)]; exact ⟨ρ1, s, h1, k, x', hs.go g1, g1.rep, e1, hk.back g1, hx.back g1⟩
    | _ => exact (hx _ e1).elim⟩
/-- -a -/
theorem snd_neg {a : Expr} {x : IE} {pos : Pos} {r : V → Hp → VK → Prop} (ha : Snd pd D lev sc N a x) (ho : ∀ X : Cx, UnR X (unaryOp .USub) r) (ok : ∀ T K, R1Ok T K .neg r) : Snd pd D lev sc N (.UnaryOp .USub a pos) (.prim .neg (.cons x .nil)) :=
  ⟨fun _ _ => rfl, fun X W G => PE.imp (pe_un (ho X) (ha.pe X W G)) fun _ _ _ q => tUn_of G.pg.dt (ok _ _) (fun _ _ => rfl) q⟩
end
end L3

/-! L3F: arguments, displays, attributes, calls of built-ins. -/
set_option autoImplicit false
set_option linter.all false
set_option maxRecDepth 100000
set_option maxHeartbeats 1000000
namespace L3
open PySem PyProof.Rows L2

/-! ### the text of arguments -/
def noStar : List Expr → Bool
  | [] => true
  | .Starred _ _ :: _ => false
  | _ :: r => noStar r
theorem star_cons {e : Expr} {es : List Expr} (h : noStar (e :: es) = true) (env : Env) : starEach (e :: es) env = (false, eval e env) :: starEach es env := by
  cases e <;> first | rfl | cases h
theorem star_rest {e : Expr} {es : List Expr} (h : noStar (e :: es) = true) : noStar es = true := by
  cases e <;> first | exact h | cases h
theorem star_any : ∀ {es : List Expr} (pos : Pos) (env : Env), noStar es = true → (backTo pos (starEach es env)).any (·.1) = false
  | [], _, _, _ => rfl
  | e :: es, pos, env, h => by
    rw [star_cons h]
    show (false || (backTo pos (starEach es env)).any (·.1)) = false
    rw [star_any pos env (star_rest h)]
    rfl
theorem star_all : ∀ {es : List Expr} (pos : Pos) (env : Env), noStar es = true → (backTo pos (starEach es env)).all (fun x => !x.1) = true
  | [], _, _, _ => rfl
  | e :: es, pos, env, h => by
    rw [star_cons h]
    show (true && (backTo pos (starEach es env)).all (fun x => !x.1)) = true
    rw [star_all pos env (star_rest h)]
    rfl
/-- the base of an attribute: not a call without arguments -/
def plainB : Expr → Bool
  | .Call (.Name _ _) [] [] _ => false
  | _ => true
theorem base_ok {o : Expr} (h : plainB o = true) (attr : Str) (env : Env) (whole : Sem Value) : attributeBase o attr env whole = whole := by
  unfold attributeBase
  split
  · cases h
  · rfl
/-- a method call's tree -/
theorem meth_tree {o : Expr} {m : Str} {apos pos : Pos} {args : List Expr} (env : Env) (hb : plainB o = true) (hs : noStar args = true) (hn : args.length < 30) (hl : (apos.endLine == pos.line) = true) :
    eval (.Call (.Attribute o m apos) args [] pos) env = (do
      let ov ← eval o env
      standAt apos.atName
      let (f, first) ← holding [ov] (getMethod ov m (do return (← importBound o env).getD true))
      callWith pos f first (backTo pos (starEach args env)) (backToKw pos (keywordEach [] env))) := by
  have hform : methodCallForm (args.length + ([] : List Keyword).length) (backTo pos (starEach args env)) (backToKw pos (keywordEach [] env)) = true := by
    unfold methodCallForm
    rw [star_all pos env hs]
    simp [backToKw, keywordEach, hn]
  have hpos : methodCallPos true o env apos pos = pure pos := by unfold methodCallPos; simp [hl]
  rw [arm_eval_Call, base_ok hb]
  unfold methodCall
  rw [hform, hpos]
  rfl

section
variable {pd : PD} {D : Hd Prop} {lev : Nat} {sc : Scope} {N : List Str}
/-- an argument list's translation -/
structure SndA' (pd : PD) (D : Hd Prop) (lev : Nat) (sc : Scope) (N : List Str) (es : List Expr) (ies : IEs) : Prop where
  ns : noStar es = true
  len : ies.len = es.length
  pa : ∀ X W, Good pd D lev sc N X W → PA X es (tEs pd.T X.K D W ies)
theorem snda_nil : SndA' pd D lev sc N [] .nil := ⟨rfl, rfl, fun X W G => PA.imp pa_nil fun σ H Q q => by
  obtain ⟨ρ, s, h, k, x, hs, hr, e, hk, hx⟩ := q
  exact hk [] h e rfl ρ H (.refl hr) (fun v hv => absurd hv (by simp))⟩
theorem snda_cons {e : Expr} {es : List Expr} {x : IE} {xs : IEs} (ha : Snd pd D lev sc N e x) (hr : SndA' pd D lev sc N es xs) (hn : noStar (e :: es) = true) : SndA' pd D lev sc N (e :: es) (.cons x xs) :=
  ⟨hn, by show xs.len + 1 = es.length + 1; rw [hr.len], fun X W G => PA.imp (pa_cons (ha.pe X W G) (hr.pa X W G) (ha.ns _ _)) fun σ H Q q => by
    obtain ⟨ρ, s, h, k, x', hs, hr, e, hk, hx⟩ := q
    refine ⟨ρ, s, h, _, x', hs, hr, e, fun v h1 e1 ρ1 H1 g1 iv => ?_, hx⟩
    refine ⟨ρ1, s, h1, _, x', hs.go g1, g1.rep, e1, fun vs h2 e2 l2 ρ2 H2 g2 iw => ?_, hx.back g1⟩
    rw [← vx_ext g2.ext iv]
    refine hk (v :: vs) h2 e2 (by show vs.length + 1 = xs.len + 1; rw [l2]) ρ2 H2 (g1.trans g2) fun w hw => ?_
    rcases List.mem_cons.mp hw with z | z
    · rw [z]; exact inb_mono iv g2.le
    · exact iw w z⟩

/-! ### displays -/
theorem snd_tup {es : List Expr} {xs : IEs} {j : Nat} {pos : Pos} (ha : SndA' pd D lev sc N es xs) : Snd pd D lev sc N (.Tuple es j pos) (.prim .tup xs) :=
  ⟨fun _ _ => rfl, fun X W G => PE.imp (pe_tup (ha.pa X W G)) fun σ H Q q => by
    obtain ⟨ρ, s, h, k, x, hs, hr, e, hk, hx⟩ := q
    refine ⟨ρ, s, h, _, x, hs, hr, e, fun vs h1 e1 _ ρ1 H1 g1 iv => ?_, hx⟩
    have e1 : (match (generalizing := false) (bif fits vs.length then okn (.ref h1.n) (h1.put (.tup vs)) else none) with
      | some (v, h2) => k v h2
      | none => x .bad) := e1
    cases c : fits vs.length with
    | false => rw [c] at e1; exact (hx _ e1).elim
    | true =>
      rw [c] at e1
      have z := fits_line c
      refine ⟨by rw [List.length_map, line_eq]; omega, fun p hp => ?_⟩
      have g2 := Rep.put (o := .tup vs) (u := .tup (vs.map (vx pd.T X.K ρ1))) g1.rep hp ⟨fun v hv => inb_mono (iv v hv) (Nat.le_succ _), by omega, by rw [map_ext put1_ext iv]⟩
      have := hk (.ref h1.n) _ e1 _ _ (g1.trans g2) (Nat.lt_succ_self _)
      rw [show vx pd.T X.K (put1 ρ1 h1.n p) (.ref h1.n) = V.ref p from congrArg V.ref put1_self] at this
      exact this⟩
theorem snd_lst {es : List Expr} {xs : IEs} {pos : Pos} (ha : SndA' pd D lev sc N es xs) : Snd pd D lev sc N (.List es pos) (.prim .lst xs) :=
  ⟨fun _ _ => rfl, fun X W G => PE.imp (pe_lst (ha.pa X W G)) fun σ H Q q => by
    obtain ⟨ρ, s, h, k, x, hs, hr, e, hk, hx⟩ := q
    refine ⟨ρ, s, h, _, x, hs, hr, e, fun vs h1 e1 _ ρ1 H1 g1 iv => ?_, hx⟩
    have e1 : (match (generalizing := false) (bif fits vs.length then okn (.ref h1.n) (h1.put (.lst vs)) else none) with
      | some (v, h2) => k v h2
      | none => x .bad) := e1
    cases c : fits vs.length with
    | false => rw [c] at e1; exact (hx _ e1).elim
    | true =>
      rw [c] at e1
      have z := fits_line c
      refine ⟨by rw [List.length_map, line_eq]; omega, fun p hp => ?_⟩
      have g2 := Rep.put (o := .lst vs) (u := .lst (vs.map (vx pd.T X.K ρ1))) g1.rep hp ⟨fun v hv => inb_mono (iv v hv) (Nat.le_succ _), by omega, by rw [map_ext put1_ext iv]⟩
      have := hk (.ref h1.n) _ e1 _ _ (g1.trans g2) (Nat.lt_succ_self _)
      rw [show vx pd.T X.K (put1 ρ1 h1.n p) (.ref h1.n) = V.ref p from congrArg V.ref put1_self] at this
      exact this⟩

/-! ### o.f -/
theorem getF_lookup {T : Tab} {K : PySem.W.Frag} {ρ : Nat → Addr} (inj : ∀ f g, T.fn f = T.fn g → f = g) (f : Nat) : ∀ (fs : List (Nat × LV)), (fs.map fun p => (T.fn p.1, vx T K ρ p.2)).lookup (T.fn f) = (getF f fs).map (vx T K ρ)
  | [] => rfl
  | (g, w) :: r => by
    have ih := getF_lookup (K := K) (ρ := ρ) inj f r
    unfold getF
    by_cases e : g = f
    · subst e
      rw [show Nat.beq g g = true from Nat.beq_refl g]
      simp [List.lookup]
    · rw [show Nat.beq g f = false from by
        cases z : Nat.beq g f with
        | false => rfl
        | true => exact absurd (Nat.eq_of_beq_eq_true z) e]
      have hb : (T.fn f == T.fn g) = false := beq_eq_false_iff_ne.mpr fun z => e (inj _ _ z).symm
      simp only [List.map_cons, List.lookup, hb]
      exact ih
theorem getF_mem {f : Nat} : ∀ {fs : List (Nat × LV)} {v : LV}, getF f fs = some v → ∃ p ∈ fs, p.2 = v
  | [], _, e => by cases e
  | (g, w) :: r, v, e => by
    unfold getF at e
    cases c : Nat.beq g f with
    | true => rw [c] at e; cases e; exact ⟨_, List.mem_cons_self, rfl⟩
    | false =>
      rw [c] at e
      obtain ⟨p, hp, e'⟩ := getF_mem (fs := r) e
      exact ⟨p, List.mem_cons_of_mem _ hp, e'⟩
theorem nolookup {T : Tab} {K : PySem.W.Frag} {ρ : Nat → Addr} {m : Str} (h : ∀ f, T.fn f ≠ m) : ∀ (fs : List (Nat × LV)), (fs.map fun p => (T.fn p.1, vx T K ρ p.2)).lookup m = none
  | [] => rfl
  | (g, w) :: r => by
    have hb : (m == T.fn g) = false := beq_eq_false_iff_ne.mpr fun z => h g z.symm
    simp only [List.map_cons, List.lookup, hb]
    exact nolookup h r
/-- .. every instance is of a class that is told of -/
theorem snd_fld {o : Expr} {x : IE} {f : Nat} {n : Str} {pos : Pos} (ho : Snd pd D lev sc N o x) (hb : plainB o = true) (hn : pd.T.fn f = n) (hf : pd.okf f = true) : Snd pd D lev sc N (.Attribute o n pos) (.prim (.fld f) (.cons x .nil)) :=
  ⟨fun _ _ => rfl, fun X W G => PE.imp (pe_fld (ho.pe X W G) (base_ok hb _ _ _)) fun σ H Q q => by
    obtain ⟨ρ, s, h, k, x', hs, hr, e, hk, hx⟩ := q
    refine ⟨ρ, s, h, _, x', hs, hr, e, fun v h1 e1 ρ1 H1 g1 iv => ?_, hx⟩
    have e1 : (match (generalizing := false) un D.T (.fld f) v h1 with
      | some (v, h2) => k v h2
      | none => x' .bad) := e1
    rw [G.pg.dt] at e1
    have bad : x' .bad → False := fun y => (hx _ y).elim
    cases v with
    | ref a =>
      cases g : h1.get a with
      | none => exact (bad (by simpa [un, g] using e1)).elim
      | some ob =>
        cases ob with
        | ins c fs =>
          obtain ⟨⟨c1, q1⟩, dx, q2⟩ := rep_ins g1.rep g
          cases gf : getF f fs with
          | none => exact (bad (by simpa [un, g, gf] using e1)).elim
          | some w =>
            have e2 : k w h1 := by simpa [un, g, gf, okn] using e1
            obtain ⟨p, hp, rfl⟩ := getF_mem gf
            refine ⟨_, _, _, _, vx pd.T X.K ρ1 p.2, rfl, q2, G.pg.cls c c1, by rw [← hn]; exact G.pg.noat c f c1 hf, ?_, hk _ _ e2 ρ1 H1 g1 (q1 p hp)⟩
            rw [← hn, getF_lookup G.pg.fnj, gf]
            rfl
        | _ => exact (bad (by simpa [un, g] using e1)).elim
    | _ => exact (bad e1).elim⟩
end
end L3

/-! L3G: calls of built-ins and of own functions, methods, classes. -/
set_option autoImplicit false
set_option linter.all false
set_option maxRecDepth 100000
set_option maxHeartbeats 1000000
namespace L3
open PySem PyProof.Rows L2

section
variable (T : Tab) (K : PySem.W.Frag)
def C1Ok (p : P) (r : List V → Hp → VK → Prop) : Prop := ∀ ρ h H v z h' Q, Rep T K ρ h H → inb h.n v → un T p v h = some (z, h') →
  (∀ ρ' H', Go T K ρ h H ρ' h' H' → inb h'.n z → Q (vx T K ρ' z) H') → r [vx T K ρ v] H Q
def C2Ok (p : P) (r : List V → Hp → VK → Prop) : Prop := ∀ ρ h H v w z h' Q, Rep T K ρ h H → inb h.n v → inb h.n w → bin T p v w h = some (z, h') →
  (∀ ρ' H', Go T K ρ h H ρ' h' H' → inb h'.n z → Q (vx T K ρ' z) H') → r [vx T K ρ v, vx T K ρ w] H Q
end
section
variable {pd : PD} {D : Hd Prop} {lev : Nat} {sc : Scope} {N : List Str}
theorem len1 {vs : List LV} (h : vs.length = 1) : ∃ v, vs = [v] := by
  match vs, h with
  | [v], _ => exact ⟨v, rfl⟩
theorem len2 {vs : List LV} (h : vs.length = 2) : ∃ v w, vs = [v, w] := by
  match vs, h with
  | [v, w], _ => exact ⟨v, w, rfl⟩
theorem tCB1 {T : Tab} {K : PySem.W.Frag} {W : WX} {p : P} {r : List V → Hp → VK → Prop} (hT : D.T = T) (ok : C1Ok T K p r) (hp : ∀ v h, prim T p [v] h = un T p v h) {a : IE} {σ : L2.St} {H : Hp} {Q : VK}
    (q : tE T K D W (.prim p (.cons a .nil)) σ H Q) : tCB r (tEs T K D W (.cons a .nil)) σ H Q := by
  obtain ⟨ρ, s, h, k, x, hs, hr, e, hk, hx⟩ := q
  refine ⟨ρ, s, h, _, x, hs, hr, e, fun vs h1 e1 l1 ρ1 H1 g1 iv => ?_, hx⟩
  obtain ⟨v, rfl⟩ := len1 l1
  have e1 : (match (generalizing := false) prim D.T p [v] h1 with
    | some (v, h2) => k v h2
    | none => x .bad) := e1
  rw [hT, hp] at e1
  cases hb : un T p v h1 with
  | none => rw [hb] at e1; exact (hx _ e1).elim
  | some z =>
    obtain ⟨z, h3⟩ := z
    rw [hb] at e1
    exact ok ρ1 h1 H1 v z h3 Q g1.rep (iv v (by simp)) hb fun ρ' H' g iz => hk z h3 e1 ρ' H' (g1.trans g) iz
theorem tCB2 {T : Tab} {K : PySem.W.Frag} {W : WX} {p : P} {r : List V → Hp → VK → Prop} (hT : D.T = T) (ok : C2Ok T K p r) (hp : ∀ v w h, prim T p [v, w] h = bin T p v w h) {a b : IE} {σ : L2.St} {H : Hp} {Q : VK}
    (q : tE T K D W (.prim p (.cons a (.cons b .nil))) σ H Q) : tCB r (tEs T K D W (.cons a (.cons b .nil))) σ H Q := by
  obtain ⟨ρ, s, h, k, x, hs, hr, e, hk, hx⟩ := q
  refine ⟨ρ, s, h, _, x, hs, hr, e, fun vs h1 e1 l1 ρ1 H1 g1 iv => ?_, hx⟩
  obtain ⟨v, w, rfl⟩ := len2 l1
  have e1 : (match (generalizing := false) prim D.T p [v, w] h1 with
    | some (v, h2) => k v h2
    | none => x .bad) := e1
  rw [hT, hp] at e1
  cases hb : bin T p v w h1 with
  | none => rw [hb] at e1; exact (hx _ e1).elim
  | some z =>
    obtain ⟨z, h3⟩ := z
    rw [hb] at e1
    exact ok ρ1 h1 H1 v w z h3 Q g1.rep (iv v (by simp)) (iv w (by simp)) hb fun ρ' H' g iz => hk z h3 e1 ρ' H' (g1.trans g) iz
theorem snd_b1 {p : P} {id : String} {x : Str} {a : Expr} {y : IE} {np pos : Pos} {r : Cx → List V → Hp → VK → Prop} (ha : SndA' pd D lev sc N [a] (.cons y .nil)) (hc : ∀ X W, Good pd D lev sc N X W → CallR X (.builtin id) (r X))
    (ok : ∀ X W, Good pd D lev sc N X W → C1Ok pd.T X.K p (r X)) (hp : ∀ T v h, prim T p [v] h = un T p v h) (hg : gloB sc x = true) (hd : dbgB x = true) (hf : x ∈ pd.frees) (hv : bootBuiltins x = some (.builtin id)) :
    Snd pd D lev sc N (.Call (.Name x np) [a] [] pos) (.prim p (.cons y .nil)) :=
  ⟨fun _ _ => rfl, fun X W G => PE.imp (pe_callB (hc X W G) (G.glo x hg) (G.pg.free x hf) hv (ha.pa X W G) (dbg_n hd) (dbg_d hd) (star_cons ha.ns _) (star_any _ _ rfl)) fun _ _ _ q => tCB1 G.pg.dt (ok X W G) (hp _) q⟩
theorem snd_t1 {p : P} {id : String} {x : Str} {a : Expr} {y : IE} {np pos : Pos} {r : Cx → List V → Hp → VK → Prop} (ha : SndA' pd D lev sc N [a] (.cons y .nil)) (hc : ∀ X W, Good pd D lev sc N X W → CallR X (.type id) (r X))
    (ok : ∀ X W, Good pd D lev sc N X W → C1Ok pd.T X.K p (r X)) (hp : ∀ T v h, prim T p [v] h = un T p v h) (hg : gloB sc x = true) (hd : dbgB x = true) (hf : x ∈ pd.frees) (hv : bootBuiltins x = some (.type id)) :
    Snd pd D lev sc N (.Call (.Name x np) [a] [] pos) (.prim p (.cons y .nil)) :=
  ⟨fun _ _ => rfl, fun X W G => PE.imp (pe_callTy (hc X W G) (G.glo x hg) (G.pg.free x hf) hv (ha.pa X W G) (dbg_n hd) (dbg_d hd) (star_cons ha.ns _) (star_any _ _ rfl)) fun _ _ _ q => tCB1 G.pg.dt (ok X W G) (hp _) q⟩
theorem snd_b2 {p : P} {id : String} {x : Str} {a b : Expr} {y z : IE} {np pos : Pos} {r : Cx → List V → Hp → VK → Prop} (ha : SndA' pd D lev sc N [a, b] (.cons y (.cons z .nil))) (hc : ∀ X W, Good pd D lev sc N X W → CallR X (.builtin id) (r X))
    (ok : ∀ X W, Good pd D lev sc N X W → C2Ok pd.T X.K p (r X)) (hp : ∀ T v w h, prim T p [v, w] h = bin T p v w h) (hg : gloB sc x = true) (hd : dbgB x = true) (hf : x ∈ pd.frees) (hv : bootBuiltins x = some (.builtin id)) :
    Snd pd D lev sc N (.Call (.Name x np) [a, b] [] pos) (.prim p (.cons y (.cons z .nil))) :=
  ⟨fun _ _ => rfl, fun X W G => PE.imp (pe_callB (hc X W G) (G.glo x hg) (G.pg.free x hf) hv (ha.pa X W G) (dbg_n hd) (dbg_d hd) (star_cons ha.ns _) (star_any _ _ (star_rest ha.ns))) fun _ _ _ q => tCB2 G.pg.dt (ok X W G) (hp _) q⟩

/-! ### each built-in -/
section
variable {T : Tab} {K : PySem.W.Frag}
theorem c_min : C2Ok T K .min2 (fun xs H Q => ∃ i j, xs = [.int i, .int j] ∧ Q (.int (if j < i then j else i)) H) := by
  intro ρ h H v w z h' Q r iv iw e q
  obtain ⟨i, rfl⟩ : ∃ i, v = .int i := by cases v <;> first | exact ⟨_, rfl⟩ | (exact nomatch e)
  obtain ⟨j, rfl⟩ : ∃ j, w = .int j := by cases w <;> first | exact ⟨_, rfl⟩ | (exact nomatch e)
  obtain ⟨rfl, rfl⟩ := okn_eq (show okn (.int (min i j)) h = some (z, h') from e)
  refine ⟨i, j, rfl, ?_⟩
  have := q ρ H (.refl r) trivial
  rw [show (if j < i then j else i) = min i j from by split <;> omega]
  exact this
theorem c_max : C2Ok T K .max2 (fun xs H Q => ∃ i j, xs = [.int i, .int j] ∧ Q (.int (if j > i then j else i)) H) := by
  intro ρ h H v w z h' Q r iv iw e q
  obtain ⟨i, rfl⟩ : ∃ i, v = .int i := by cases v <;> first | exact ⟨_, rfl⟩ | (exact nomatch e)
  obtain ⟨j, rfl⟩ : ∃ j, w = .int j := by cases w <;> first | exact ⟨_, rfl⟩ | (exact nomatch e)
  obtain ⟨rfl, rfl⟩ := okn_eq (show okn (.int (max i j)) h = some (z, h') from e)
  refine ⟨i, j, rfl, ?_⟩
  have := q ρ H (.refl r) trivial
  rw [show (if j > i then j else i) = max i j from by split <;> omega]
  exact this
theorem c_int : C1Ok T K .int (fun xs H Q => (∃ i, xs = [.int i] ∧ Q (.int i) H) ∨ ∃ k, xs = [.bl k] ∧ Q (.int (if k then 1 else 0)) H) := by
  intro ρ h H v z h' Q r iv e q
  cases v with
  | int i =>
    obtain ⟨rfl, rfl⟩ := okn_eq (show okn (.int i) h = some (z, h') from e)
    exact .inl ⟨i, rfl, q ρ H (.refl r) trivial⟩
  | bl b =>
    obtain ⟨rfl, rfl⟩ := okn_eq (show okn (.int (bif b then 1 else 0)) h = some (z, h') from e)
    refine .inr ⟨b, rfl, ?_⟩
    have := q ρ H (.refl r) trivial
    rw [show (if b = true then (1 : Int) else 0) = (bif b then 1 else 0) from by cases b <;> rfl]
    exact this
  | _ => exact nomatch e
/-- len of a dict too -/
abbrev rLenA (K : PySem.W.Frag) : List V → Hp → VK → Prop := fun xs H Q => (∃ x n, xs = [x] ∧ LenV K x H n ∧ Q (.int n) H) ∨ ∃ p kvs, xs = [.ref p] ∧ H p = some (.dK kvs) ∧ Q (.int (kvs.length : Nat)) H
theorem lenV_seq {ρ : Nat → Addr} {h : LH} {H : Hp} {a : Nat} {o : LO} (r : Rep T K ρ h H) (g : h.get a = some o) {n : Nat} (e : (match o with | .lst xs => some xs.length | .tup xs => some xs.length | .rol ns => some ns.length | _ => none) = some n) : LenV K (.ref (ρ a)) H n := by
  cases o with
  | lst xs => cases e; exact .inl ⟨_, SqL.of (rep_lst r g).1, by rw [List.length_map]⟩
  | tup xs => cases e; exact .inr ⟨_, SqT.of (rep_tup r g).1, by rw [List.length_map]⟩
  | rol ns => cases e; exact .inl ⟨_, rep_rol r g, by rw [List.length_map]⟩
  | _ => cases e
theorem c_len (G : GtOk T K) : C1Ok T K .len (rLenA K) := by
  intro ρ h H v z h' Q r iv e q
  have e : (match lenOf T h v with
    | some n => okn (.int n) h
    | none => none) = some (z, h') := e
  cases g : lenOf T h v with
  | none => rw [g] at e; cases e
  | some n =>
    rw [g] at e
    obtain ⟨rfl, rfl⟩ := okn_eq e
    have fin := q ρ H (.refl r) trivial
    cases v with
    | str s =>
      have g : (bif fits s.length then some s.length else none) = some n := g
      cases c : fits s.length with
      | false => rw [c] at g; cases g
      | true =>
        rw [c] at g
        cases g
        exact .inl ⟨_, _, rfl, ⟨by rw [len_toStr, line_eq]; have := fits_line c; omega, (len_toStr s).symm⟩, fin⟩
    | ref a =>
      unfold lenOf at g
      dsimp only at g
      cases ga : h.get a with
      | none => rw [ga] at g; cases g
      | some o =>
        rw [ga] at g
        cases o with
        | dic kvs =>
          cases g
          refine .inr ⟨_, _, rfl, (rep_dic r ga).1, ?_⟩
          rw [List.length_map]
          exact fin
        | lst xs => exact .inl ⟨_, n, rfl, lenV_seq r ga g, fin⟩
        | tup xs => exact .inl ⟨_, n, rfl, lenV_seq r ga g, fin⟩
        | rol xs => exact .inl ⟨_, n, rfl, lenV_seq r ga g, fin⟩
        | _ => cases g
    | gl i =>
      have g' : (match T.gt i with
        | some xs => some xs.length
        | none => none) = some n := g
      cases gi : T.gt i with
      | none => rw [gi] at g'; cases g'
      | some xs =>
        rw [gi] at g'
        cases g'
        exact .inl ⟨_, _, rfl, .inr ⟨_, (G i xs gi).2 H, by rw [List.length_map]⟩, fin⟩
    | _ => cases g
theorem c_list (G : GtOk T K) : C1Ok T K .list (fun xs H Q => ∃ p ys, xs = [.ref p] ∧ (SqL K H p ys ∨ SqT K H p ys) ∧ ∀ l, H l = none → Q (.ref l) (upd H l (.lst ys))) := by
  intro ρ h H v z h' Q r iv e q
  have e : (match seqOf T h v with
    | some xs => bif fits xs.length then okn (.ref h.n) (h.put (.lst xs)) else none
    | none => none) = some (z, h') := e
  cases g : seqOf T h v with
  | none => rw [g] at e; cases e
  | some xs =>
    rw [g] at e
    dsimp only at e
    cases c : fits xs.length with
    | false => rw [c] at e; cases e
    | true =>
    rw [c] at e
    obtain ⟨rfl, rfl⟩ := okn_eq e
    obtain ⟨q1, p, ep, hp⟩ := seq_of G r g iv
    refine ⟨p, _, by rw [ep], hp, fun l hl => ?_⟩
    have g2 := Rep.put (o := .lst xs) (u := .lst (xs.map (vx T K ρ))) r hl ⟨fun v hv => inb_mono (q1 v hv) (Nat.le_succ _), by have := fits_line c; omega, by rw [map_ext put1_ext q1]⟩
    have := q _ _ g2 (Nat.lt_succ_self _)
    rw [show vx T K (put1 ρ h.n l) (.ref h.n) = V.ref l from congrArg V.ref put1_self] at this
    exact this
end
end
end L3

/-! L3H: calls of own functions, of methods, of classes. -/
set_option autoImplicit false
set_option linter.all false
set_option maxRecDepth 100000
set_option maxHeartbeats 1000000
namespace L3
open PySem PyProof.Rows L2

section
variable {X : Cx} {CX : CXT} {k : Nat} {f C : Addr} {fd : FuncData} {ps : List Str} {sp : Sp} {dvs : List V} {ds : List Value} {E : L2.St → XK} {x m : Str} {p pos apos : Pos} {e o : Expr} {es : List Expr} {t : TA}
theorem pe_call0SD (F : FnOk X.prog X.w X.K X.mg X.base CX k f fd ps sp) (hr : Room k X.A) (hg : Gl X x) (hm : X.mg x = some (.ref f)) (hk : PySem.W.keepIn X.K (.ref f) = true) (hb : Binds X.K fd ps ds) (hd : Vals dvs ds) (hx : ∀ σ, PassesAt CX X σ (E σ))
    (hdb : (x == ("__debug__" : Str)) = false) : PE X (.Call (.Name x p) [] [] pos) (tCallSD sp dvs E tNil) := by
  refine ⟨fun pins s σ H Q I h => ?_⟩
  refine wpAny_Call_Name_kw (ld_glob I hg hm ?_ hdb)
  exact PySem.W.callWith_K0 I.kIn hk (run_fnSD (us := []) F hr hb hd (hx σ) I .nil h)
theorem run_makeSD {pins : List (Addr × Obj)} {σ : L2.St} {H : Hp} {s : Shared} {Q : VK} {us : List Value} {vs : List V} (M : Mk X.K C f) (F : FnOk X.prog X.w X.K X.mg X.base CX k f fd ps sp) (hr : Room (k + 1) X.A) (hb : Binds X.K fd ps ds) (hd : Vals dvs ds)
    (hx : PassesAt CX X σ (E σ)) (I : Inv X pins σ H s) (r : Vals vs us)
    (h : ∀ x dx, H x = none → H dx = none → dx ≠ x → sp (.ref x :: (vs ++ dvs)) (upd (upd H dx (.own x)) x (.ins C dx [])) (fun v H2 => v = .non ∧ Q (.ref x) H2) (E σ)) :
    wpAny (model X.prog X.w) X.A (call (.ref C) us) (EP X pins σ Q) X.xe s := by
  have hq := h (s.heap.objs.size + 1) s.heap.objs.size (I.hok.fresh (Nat.le_succ _)) (I.hok.fresh (Nat.le_refl _)) (Nat.ne_of_lt (Nat.lt_succ_self _))
  have I2 := Inv.made (C := C) I
  have r2 : Vals (V.ref (s.heap.objs.size + 1) :: (vs ++ dvs)) (Value.ref (s.heap.objs.size + 1) :: (us ++ ds)) := .cons rfl (r.append hd)
  have hl : (Value.ref (s.heap.objs.size + 1) :: us ++ ds).length = ps.length := by
    have e := r2.length
    rw [F.len _ _ _ _ hq] at e
    exact e.symm
  refine wpAny_call (make_map (f := f) I.kIn M.makes M.init (beq_iff_eq.mp M.fn) (codeAny_mono (F.run _ X.stack _ _ ⟨Value.ref (s.heap.objs.size + 1) :: us, []⟩ (Value.ref (s.heap.objs.size + 1) :: (us ++ ds)) _ _ (E σ) (hr.make C us [])
    (I2.env0.make C us []) (hb _ (Value.ref (s.heap.objs.size + 1) :: us) I2.kIn hl) r2 hq) fun r s' hq' => ?_))
  cases r with
  | error e => exact hx pins _ _ e s' I2 hq'
  | ok fl =>
    cases fl with
    | ret u =>
      obtain ⟨v, H', I3, rv, ev, q3⟩ := I2.after hq'
      subst ev
      exact ⟨rv, ⟨V.ref (s.heap.objs.size + 1), H', I3, rfl, q3⟩⟩
    | next => exact False.elim hq'
    | brk => exact False.elim hq'
    | cont => exact False.elim hq'
end

section
variable {T : Tab} {K : PySem.W.Frag}
/-- an object that the logical heap knows nothing of -/
theorem Go.extra {ρ : Nat → Addr} {h : LH} {H : Hp} {p : Addr} {u : HO} (r : Rep T K ρ h H) (hp : H p = none) : Go T K ρ h H ρ h (upd H p u) := by
  have ne : ∀ a, a < h.n → ρ a ≠ p := fun a ha z => by
    obtain ⟨u', e⟩ := r.at ha
    rw [z, hp] at e; cases e
  refine ⟨.refl _ _, Nat.le_refl _, ⟨r.len, fun a o e => ?_, r.inj⟩, ⟨fun b o e _ => ?_, fun a ha => .inl ⟨a, ha, rfl⟩⟩⟩
  · obtain ⟨u', e', q⟩ := r.obj a o e
    exact ⟨u', by rw [upd_ne (ne a (get_lt e))]; exact e', q⟩
  · rw [upd_ne (by intro z; rw [z, hp] at e; cases e)]
    exact e
theorem vals_none {ds : List Value} (h : Vals [] ds) : ds = [] := by cases h; rfl
end

section
variable {pd : PD} {D : Hd Prop} {lev : Nat} {sc : Scope} {N : List Str}
/-- a call's arguments become the callee's -/
theorem sp_of {X : Cx} {W : WX} {f : Nat} {F : FnI} {xs : IEs} {d : List LV} {pre : List LV} (G : Good pd D lev sc N X W) (hF : pd.fns[f]? = some F) (hd : d.all flat = true) {ρ : Nat → Addr} {h : LH} {H : Hp} {σ : L2.St} {Q : VK} {k : LV → LH → Prop} {x : XO → Prop} {vs : List LV}
    (hr : Rep pd.T X.K ρ h H) (iv : ∀ v ∈ vs, inb h.n v) (e : D.call f (vs ++ d) h k x) (hk : KOk pd.T X.K ρ h H Q k) (hx : XOk pd.T X.K ρ h H (fun c d H' => W c d σ H') x) :
    spF pd.T X.K D f F.ps.length (vs.map (vx pd.T X.K ρ) ++ d.map (vx pd.T X.K fun _ => 0)) H Q (WE W σ) := by
  refine ⟨ρ, h, vs ++ d, k, x, ?_, G.pg.arity f F _ _ _ _ hF e (fun y => (hx _ y).elim), fun v hv => ?_, hr, e, hk, hx⟩
  · rw [List.map_append]
    congr 1
    exact List.map_congr_left fun v hv => flat_vx (List.all_eq_true.mp hd v hv) _ _
  · rcases List.mem_append.mp hv with z | z
    · exact iv v z
    · exact flat_inb (List.all_eq_true.mp hd v z) _
theorem dfl_drop {F : FnI} {f : Nat} {X : Cx} {W : WX} (G : Good pd D lev sc N X W) (hF : pd.fns[f]? = some F) (j : Nat) : (F.dfl.drop j).all flat = true :=
  List.all_eq_true.mpr fun v hv => List.all_eq_true.mp (G.pg.dfl f F hF) v (List.mem_of_mem_drop hv)
theorem call_of {X : Cx} {W : WX} {f : Nat} {F : FnI} {xs : IEs} {j : Nat} (G : Good pd D lev sc N X W) (hF : pd.fns[f]? = some F) {σ : L2.St} {H : Hp} {Q : VK}
    (q : tE pd.T X.K D W (.call f xs (F.dfl.drop j)) σ H Q) : tCallSD (spF pd.T X.K D f F.ps.length) ((F.dfl.drop j).map (vx pd.T X.K fun _ => 0)) (WE W) (tEs pd.T X.K D W xs) σ H Q := by
  obtain ⟨ρ, s, h, k, x, hs, hr, e, hk, hx⟩ := q
  exact ⟨ρ, s, h, _, x, hs, hr, e, fun vs h1 e1 _ ρ1 H1 g1 iv => sp_of (xs := xs) (pre := []) G hF (dfl_drop G hF j) g1.rep iv e1 (hk.back g1) (hx.back g1), hx⟩
/-- f(..) -/
theorem snd_call {f : Nat} {F : FnI} {x : Str} {es : List Expr} {xs : IEs} {j : Nat} {np pos : Pos} (ha : SndA' pd D lev sc N es xs) (hF : pd.fns[f]? = some F) (hat : F.at_ = (x, none)) (hj : j ≤ F.dfl.length) (hg : gloB sc x = true) (hm : x ∈ pd.glos) (hd : dbgB x = true) :
    Snd pd D lev sc N (.Call (.Name x np) es [] pos) (.call f xs (F.dfl.drop j)) := by
  refine ⟨fun _ _ => rfl, fun X W G => ?_⟩
  obtain ⟨fd, FO, hb⟩ := G.pg.fn f F hF
  obtain ⟨ds, hds, hB⟩ := hb j hj
  have ea : He.fAd X.K F.at_ = He.ga X.K x := by rw [hat]; rfl
  rw [ea] at FO
  have hr : Room lev X.A := G.room.mono (Nat.le_succ _)
  match es, ha with
  | [], ha =>
    refine PE.imp (pe_call0SD (E := WE W) FO hr (G.glo x hg) (G.pg.glo x hm) (by have z := G.pg.fkp f F hF; rw [ea] at z; exact z) hB hds (fun σ => passAt G.tk σ) (dbg_d hd)) fun σ H Q q => ?_
    obtain ⟨ρ, s, h, k, x', hs, hr', e, hk, hx⟩ := q
    obtain rfl : xs = .nil := by
      have l := ha.len
      cases xs with
      | nil => rfl
      | cons _ _ => cases l
    exact sp_of (vs := []) (xs := .nil) (pre := []) G hF (dfl_drop G hF j) hr' (fun v hv => absurd hv (by simp)) e hk hx
  | a :: es, ha =>
    exact PE.imp (pe_callSD (E := WE W) FO hr (G.glo x hg) (G.pg.glo x hm) (by have z := G.pg.fkp f F hF; rw [ea] at z; exact z) hB hds (fun σ => passAt G.tk σ) (ha.pa X W G) (dbg_d hd) (star_cons ha.ns _) (star_any _ _ (star_rest ha.ns))) fun σ H Q q => call_of G hF q
theorem vals_pre {T : Tab} {K : PySem.W.Frag} {ρ : Nat → Addr} {vs : List LV} : (vs.map (vx T K ρ) ++ ([] : List LV).map (vx T K fun _ => 0)) = vs.map (vx T K ρ) := by simp
/-- o.m(..) -/
theorem snd_meth {o : Expr} {x : IE} {m : Nat} {n : Str} {es : List Expr} {xs : IEs} {apos pos : Pos} (ho : Snd pd D lev sc N o x) (ha : SndA' pd D lev sc N es xs) (hn : pd.T.mn m = n) (hb : plainB o = true) (hl : es.length < 30) (hp : (apos.endLine == pos.line) = true) :
    Snd pd D lev sc N (.Call (.Attribute o n apos) es [] pos) (.meth m x xs) := by
  refine ⟨fun _ _ => rfl, fun X W G => ⟨fun pins s σ H Q I q => ?_⟩⟩
  refine methcall_of (ho.pe X W G) I ?_ (meth_tree X.env hb ha.ns hl hp)
  obtain ⟨ρ, s', h, k, x', hs, hr, e, hk, hx⟩ := q
  refine ⟨ρ, s', h, _, x', hs, hr, e, fun v h1 e1 ρ1 H1 g1 iv => ?_, hx⟩
  have e1 : (match (generalizing := false) v with
    | .ref a => match h1.get a with
      | some (.ins c _) => match D.T.mth c m with
        | some f => rEs D xs s' h1 (fun vs h2 => D.call f (.ref a :: vs) h2 k x') x'
        | none => x' .bad
      | _ => x' .bad
    | _ => x' .bad) := e1
  rw [G.pg.dt] at e1
  have bad : x' .bad → False := fun y => (hx _ y).elim
  cases v with
  | ref a =>
    cases g : h1.get a with
    | none => exact (bad (by simpa [g] using e1)).elim
    | some ob =>
      cases ob with
      | ins c fs =>
        cases gf : pd.T.mth c m with
        | none => exact (bad (by simpa [g, gf] using e1)).elim
        | some f =>
          have e2 : rEs D xs s' h1 (fun vs h2 => D.call f (.ref a :: vs) h2 k x') x' := by simpa [g, gf] using e1
          obtain ⟨⟨c1, q1⟩, dx, q2⟩ := rep_ins g1.rep g
          obtain ⟨F, hF, hm⟩ := G.pg.meth c m f c1 gf
          rw [hn] at hm
          obtain ⟨fd, FO, hb⟩ := G.pg.fn f F hF
          obtain ⟨ds, hds, hB⟩ := hb F.dfl.length (Nat.le_refl _)
          rw [List.drop_length] at hds
          obtain rfl := vals_none hds
          have hr' : Room lev X.A := G.room.mono (Nat.le_succ _)
          refine ⟨_, _, _, _, _, rfl, q2, G.pg.cls c c1, hm, nolookup (fun f z => G.pg.fmn f m (z.trans hn.symm)) fs, fun s1 I1 => ?_⟩
          match es, ha with
          | [], ha =>
            obtain rfl : xs = .nil := by
              have l := ha.len
              cases xs with
              | nil => rfl
              | cons _ _ => cases l
            refine PySem.W.callWith_K0 (first := [.ref (ρ1 a)]) I1.kIn hm.kp (run_fnSD (E := WE W) (us := [.ref (ρ1 a)]) (vs := [.ref (ρ1 a)]) FO hr' hB .nil (passAt G.tk σ) I1 (.cons rfl .nil) ?_)
            exact sp_of (vs := [.ref a]) (d := []) (xs := .nil) (pre := []) G hF rfl g1.rep (fun v hv => by rw [List.mem_singleton.mp hv]; exact iv) e2 (hk.back g1) (hx.back g1)
          | b :: es, ha =>
            have harg : tEs pd.T X.K D W xs σ H1 (fun vs H2 => spF pd.T X.K D f F.ps.length (V.ref (ρ1 a) :: vs) H2 Q (WE W σ)) := by
              refine ⟨ρ1, s', h1, _, x', hs.go g1, g1.rep, e2, fun vs h2 e3 _ ρ2 H2 g2 iw => ?_, hx.back g1⟩
              have z := sp_of (W := W) (σ := σ) (vs := .ref a :: vs) (d := []) (xs := xs) (pre := []) (Q := Q) G hF rfl g2.rep (fun v hv => by
                rcases List.mem_cons.mp hv with y | y
                · rw [y]; exact inb_mono iv g2.le
                · exact iw v y) (by rw [List.append_nil]; exact e3) ((hk.back g1).back g2) ((hx.back g1).back g2)
              rw [vals_pre, List.map_cons] at z
              rw [show V.ref (ρ1 a) = vx pd.T X.K ρ2 (.ref a) from (vx_ext g2.ext iv).symm]
              exact z
            refine PySem.W.callWith_K (first := [.ref (ρ1 a)]) (h₀ := X.base) I1.ok.mod.kin hm.kp (thn ((ha.pa X W G).run pos pins s1 σ H1 _ I1 harg) fun us s2 ⟨vs, H2, I2, r, q2⟩ => ⟨I2.kIn, ?_⟩) (star_cons ha.ns _) (star_any _ _ (star_rest ha.ns))
            exact run_fnSD (E := WE W) (us := .ref (ρ1 a) :: us) (vs := .ref (ρ1 a) :: vs) FO hr' hB .nil (passAt G.tk σ) I2 (.cons rfl r) (by rw [List.append_nil]; exact q2)
      | _ => exact (bad (by simpa [g] using e1)).elim
  | _ => exact (bad e1).elim
/-- C.m(self, ..): a function read off a class -/
theorem snd_sup {f : Nat} {C m : Str} {a : Expr} {es : List Expr} {xs : IEs} {np apos pos : Pos} (ha : SndA' pd D lev sc N (a :: es) xs) (hs : (C, m, f) ∈ pd.sups) (hg : gloB sc C = true) (hm : C ∈ pd.glos) (hd : dbgB C = true) (hl : (a :: es).length < 30) (hp : (apos.endLine == pos.line) = true) :
    Snd pd D lev sc N (.Call (.Attribute (.Name C np) m apos) (a :: es) [] pos) (.call f xs []) := by
  refine ⟨fun _ _ => rfl, fun X W G => ⟨fun pins s σ H Q I q => ?_⟩⟩
  obtain ⟨F, hF, h1, h2, h3⟩ := G.pg.sup C m f hs
  obtain ⟨fd, FO, hb⟩ := G.pg.fn f F hF
  obtain ⟨ds, hds, hB⟩ := hb F.dfl.length (Nat.le_refl _)
  rw [List.drop_length] at hds
  obtain rfl := vals_none hds
  have hr' : Room lev X.A := G.room.mono (Nat.le_succ _)
  refine PySem.W.methodCall_KW (ld_glob I (G.glo C hg) (G.pg.glo C hm) ?_ (dbg_d hd)) (meth_tree X.env rfl ha.ns hl hp)
  refine PySem.W.method_cls I.kIn h2 (PySem.W.cls_value I.kIn h1 h3 (handed_of (show RelV (.ref (He.fAd X.K F.at_)) (.ref (He.fAd X.K F.at_)) from rfl)) ?_)
  have I1 := I.tok (s.toks + 1)
  have harg : tEs pd.T X.K D W xs σ H (fun vs H2 => spF pd.T X.K D f F.ps.length vs H2 Q (WE W σ)) := by
    obtain ⟨ρ, s', h, k, x', hs, hr, e, hk, hx⟩ := q
    refine ⟨ρ, s', h, _, x', hs, hr, e, fun vs h1 e1 _ ρ1 H1 g1 iv => ?_, hx⟩
    have z := sp_of (W := W) (σ := σ) (vs := vs) (d := []) (xs := xs) (pre := []) (Q := Q) G hF rfl g1.rep iv e1 (hk.back g1) (hx.back g1)
    rw [vals_pre] at z
    exact z
  refine PySem.W.callWith_K (first := []) (h₀ := X.base) I.ok.mod.kin (G.pg.fkp f F hF) (thn ((ha.pa X W G).run pos pins _ σ H _ I1 harg) fun us s2 ⟨vs, H2, I2, r, q2⟩ => ⟨I2.kIn, ?_⟩) (star_cons ha.ns _) (star_any _ _ (star_rest ha.ns))
  exact run_fnSD (E := WE W) FO hr' hB .nil (passAt G.tk σ) I2 r (by rw [List.append_nil]; exact q2)
/-- C(..) -/
theorem make_of {X : Cx} {W : WX} {c f : Nat} {F : FnI} {d : List LV} (G : Good pd D lev sc N X W) (hc : pd.T.okc c = true) (hF : pd.fns[f]? = some F) (hd : d.all flat = true) {ρ : Nat → Addr} {h : LH} {H : Hp} {σ : L2.St} {Q : VK} {k : LV → LH → Prop} {x : XO → Prop} {vs : List LV}
    (hr : Rep pd.T X.K ρ h H) (iv : ∀ v ∈ vs, inb h.n v)
    (e : D.call f (.ref h.n :: (vs ++ d)) (h.put (.ins c [])) (fun v h2 => match (generalizing := false) v with
      | .non => k (.ref h.n) h2
      | _ => x .bad) x) (hk : KOk pd.T X.K ρ h H Q k) (hx : XOk pd.T X.K ρ h H (fun c d H' => W c d σ H') x) :
    ∀ a dx, H a = none → H dx = none → dx ≠ a → spF pd.T X.K D f F.ps.length (.ref a :: (vs.map (vx pd.T X.K ρ) ++ d.map (vx pd.T X.K fun _ => 0))) (upd (upd H dx (.own a)) a (.ins (cad pd.T X.K c) dx [])) (fun v H2 => v = .non ∧ Q (.ref a) H2) (WE W σ) := by
  intro a dx na nd ne
  have g1 := Go.extra (u := .own a) hr nd
  have na' : upd H dx (.own a) a = none := by rw [upd_ne (Ne.symm ne)]; exact na
  have g2 := Rep.put (o := .ins c []) (u := .ins (cad pd.T X.K c) dx []) g1.rep na' ⟨⟨hc, fun p hp => absurd hp (by simp)⟩, dx, rfl⟩
  have g := g1.trans g2
  have z := sp_of (W := W) (σ := σ) (vs := .ref h.n :: vs) (d := d) (xs := .nil) (pre := []) (Q := fun v H2 => v = .non ∧ Q (.ref a) H2) G hF hd g.rep (fun v hv => by
    rcases List.mem_cons.mp hv with y | y
    · rw [y]; exact Nat.lt_succ_self _
    · exact inb_mono (iv v y) (Nat.le_succ _)) e (fun v h' e' ρ' H' g' i => ?_) (hx.back g)
  · rw [List.map_cons, show vx pd.T X.K (put1 ρ h.n a) (.ref h.n) = V.ref a from congrArg V.ref put1_self, map_ext put1_ext iv] at z
    exact z
  · cases v with
    | non =>
      refine ⟨rfl, ?_⟩
      have := hk (.ref h.n) h' e' ρ' H' (g.trans g') (Nat.lt_of_lt_of_le (Nat.lt_succ_self _) g'.le)
      rw [show vx pd.T X.K ρ' (.ref h.n) = V.ref a from congrArg V.ref ((g'.ext h.n (Nat.lt_succ_self _)).trans put1_self)] at this
      exact this
    | _ => exact (hx _ e').elim
theorem snd_make {c f : Nat} {F : FnI} {x : Str} {es : List Expr} {xs : IEs} {j : Nat} {np pos : Pos} (ha : SndA' pd D lev sc N es xs) (hc : pd.T.okc c = true) (hi : pd.T.ini c = some f) (hF : pd.fns[f]? = some F) (hx : pd.T.gn (pd.T.cg c) = x) (hj : j ≤ F.dfl.length) (hg : gloB sc x = true) (hm : x ∈ pd.glos) (hd : dbgB x = true) :
    Snd pd D lev sc N (.Call (.Name x np) es [] pos) (.make c xs (F.dfl.drop j)) := by
  refine ⟨fun _ _ => rfl, fun X W G => ⟨fun pins s σ H Q I q => ?_⟩⟩
  obtain ⟨fd, FO, hb⟩ := G.pg.fn f F hF
  obtain ⟨ds, hds, hB⟩ := hb j hj
  obtain ⟨F', hF', M⟩ := G.pg.made c f hc hi
  rw [hF] at hF'
  cases hF'
  have ec : cad pd.T X.K c = He.ga X.K x := by unfold cad; rw [hx]
  refine wpAny_Call_Name_kw (ld_glob I (G.glo x hg) (G.pg.glo x hm) ?_ (dbg_d hd))
  have harg : tEs pd.T X.K D W xs σ H (fun vs H2 => ∀ a dx, H2 a = none → H2 dx = none → dx ≠ a → spF pd.T X.K D f F.ps.length (.ref a :: (vs ++ (F.dfl.drop j).map (vx pd.T X.K fun _ => 0))) (upd (upd H2 dx (.own a)) a (.ins (He.ga X.K x) dx [])) (fun v H2 => v = .non ∧ Q (.ref a) H2) (WE W σ)) := by
    obtain ⟨ρ, s', h, k, x', hs, hr, e, hk, hx⟩ := q
    refine ⟨ρ, s', h, _, x', hs, hr, e, fun vs h1 e1 _ ρ1 H1 g1 iv => ?_, hx⟩
    have e1 : (match (generalizing := false) D.T.ini c with
      | some f => D.call f (.ref h1.n :: (vs ++ F.dfl.drop j)) (h1.put (.ins c [])) (fun v h2 => match (generalizing := false) v with
        | .non => k (.ref h1.n) h2
        | _ => x' .bad) x'
      | none => x' .bad) := e1
    rw [G.pg.dt, hi] at e1
    have z := make_of (W := W) (σ := σ) (Q := Q) G hc hF (dfl_drop G hF j) g1.rep iv e1 (hk.back g1) (hx.back g1)
    rw [ec] at z
    exact z
  rw [ec] at M
  match es, ha with
  | [], ha =>
    obtain rfl : xs = .nil := by
      have l := ha.len
      cases xs with
      | nil => rfl
      | cons _ _ => cases l
    refine PySem.W.callWith_K0 I.kIn M.kp (run_makeSD (E := WE W) (us := []) (vs := []) M FO G.room hB hds (passAt G.tk σ) I .nil ?_)
    obtain ⟨ρ, s', h, k, x', hs, hr, e, hk, hx⟩ := harg
    exact hk [] h e rfl ρ H (.refl hr) (fun v hv => absurd hv (by simp))
  | b :: es, ha =>
    refine PySem.W.callWith_K (h₀ := X.base) I.ok.mod.kin M.kp (thn ((ha.pa X W G).run pos pins s σ H _ I harg) fun us s1 ⟨vs, H1, I1, r, q⟩ => ⟨I1.kIn, ?_⟩) (star_cons ha.ns _) (star_any _ _ (star_rest ha.ns))
    exact run_makeSD (E := WE W) M FO G.room hB hds (passAt G.tk σ) I1 r q
end
end L3

/-! L3I: isinstance, dicts, methods of lists, list comprehensions. -/
set_option autoImplicit false
set_option linter.all false
set_option maxRecDepth 100000
set_option maxHeartbeats 1000000
namespace L3
open PySem PyProof.Rows L2

section
variable {pd : PD} {D : Hd Prop} {lev : Nat} {sc : Scope} {N : List Str}
/-! ### isinstance -/
theorem vt_of {X : Cx} {W : WX} (G : Good pd D lev sc N X W) {ρ : Nat → Addr} {h : LH} {H : Hp} (r : Rep pd.T X.K ρ h H) {v : LV} {t : Vt} (e : vtOf h v = some t) : vtOk pd t = true ∧ TyX X.K H (vx pd.T X.K ρ v) (vtU pd.T X.K t) := by
  cases v with
  | non => cases e; exact ⟨rfl, .base .non⟩
  | bl b => cases e; exact ⟨rfl, .base (.bl b)⟩
  | int b => cases e; exact ⟨rfl, .base (.int b)⟩
  | str b => cases e; exact ⟨rfl, .base (.str _)⟩
  | ref a =>
    unfold vtOf at e
    dsimp only at e
    cases g : h.get a with
    | none => rw [g] at e; cases e
    | some o =>
      rw [g] at e
      cases o with
      | lst xs => cases e; exact ⟨rfl, .base (.lst (rep_lst r g).1)⟩
      | tup xs => cases e; exact ⟨rfl, .base (.tup (rep_tup r g).1)⟩
      | dic xs => cases e; exact ⟨rfl, .base (.dK (rep_dic r g).1)⟩
      | ins c fs =>
        cases e
        obtain ⟨⟨c1, _⟩, dx, q⟩ := rep_ins r g
        obtain ⟨i1, i2, i3, i4⟩ := G.pg.ins c c1
        exact ⟨c1, .base (.ins q (G.pg.cls c c1) i1 i2 i3 i4)⟩
      | _ => cases e
  | gl _ => cases e
theorem isOne_vt {T : Tab} {h : LH} {v : LV} {ts : List Ty} {b : Bool} (e : isOne T h v ts = some b) : ∃ t, vtOf h v = some t ∧ b = ts.any (vtSub T t) := by
  unfold isOne at e
  cases q : vtOf h v with
  | none => rw [q] at e; cases e
  | some w => rw [q] at e; cases e; exact ⟨w, rfl, rfl⟩
/-- a class that is named: its name, what it is -/
structure ClsN (pd : PD) (sc : Scope) (x : Str) (t : Ty) : Prop where
  ok : tyOk pd t = true
  g : gloB sc x = true
  d : dbgB x = true
  is : (∃ c, t = .own c ∧ pd.T.gn (pd.T.cg c) = x ∧ x ∈ pd.glos) ∨ ((∀ c, t ≠ .own c) ∧ x ∈ pd.frees ∧ ∃ n, bootBuiltins x = some (.type n) ∧ ∀ T K, tyU T K t = .type n ∧ tyV' T K t = .ty n)
theorem ClsN.pe {x : Str} {t : Ty} {pos : Pos} {X : Cx} {W : WX} (G : Good pd D lev sc N X W) (c : ClsN pd sc x t) : PE X (.Name x pos) (tC (tyV' pd.T X.K t)) ∧ ClsV (tyV' pd.T X.K t) (tyU pd.T X.K t) := by
  rcases c.is with ⟨c', rfl, h1, h2⟩ | ⟨_, h2, n, h3, h4⟩
  · refine ⟨pe_glob (u := .ref (He.ga X.K x)) (G.glo x c.g) (G.pg.glo x h2) ?_ (dbg_d c.d), .own _⟩
    show Value.ref (He.ga X.K x) = .ref (cad pd.T X.K c')
    unfold cad
    rw [h1]
  · obtain ⟨e1, e2⟩ := h4 pd.T X.K
    rw [e1, e2]
    exact ⟨pe_bltn (G.glo x c.g) (G.pg.free x h2) h3 rfl (dbg_n c.d) (dbg_d c.d), .ty n⟩
theorem isi_fin {X : Cx} {W : WX} (G : Good pd D lev sc N X W) {ts : List Ty} {a : IE} {σ : L2.St} {H : Hp} {Q : VK} (q : tE pd.T X.K D W (.prim (.isi ts) (.cons a .nil)) σ H Q) :
    tE pd.T X.K D W a σ H fun x H1 => ∃ t, vtOk pd t = true ∧ TyX X.K H1 x (vtU pd.T X.K t) ∧ (∀ p u, H1 p = none → TyX X.K (upd H1 p u) x (vtU pd.T X.K t)) ∧ Q (.bl (ts.any (vtSub pd.T t))) H1 ∧ ∀ p u, H1 p = none → Q (.bl (ts.any (vtSub pd.T t))) (upd H1 p u) := by
  obtain ⟨ρ, s, h, k, x, hs, hr, e, hk, hx⟩ := q
  refine ⟨ρ, s, h, _, x, hs, hr, e, fun v h1 e1 ρ1 H1 g1 iv => ?_, hx⟩
  have e1 : (match (generalizing := false) (match isOne D.T h1 v ts with
      | some b => okn (.bl b) h1
      | none => none) with
    | some (v, h2) => k v h2
    | none => x .bad) := e1
  rw [G.pg.dt] at e1
  cases c : isOne pd.T h1 v ts with
  | none => rw [c] at e1; exact (hx _ e1).elim
  | some b =>
    rw [c] at e1
    obtain ⟨t, q1, q2⟩ := isOne_vt c
    obtain ⟨o1, o2⟩ := vt_of G g1.rep q1
    refine ⟨t, o1, o2, fun p u hp => ?_, ?_, fun p u hp => ?_⟩
    · exact (vt_of G (Go.extra (u := u) g1.rep hp).rep q1).2
    · rw [← q2]; exact hk _ _ e1 ρ1 H1 g1 trivial
    · rw [← q2]; exact hk _ _ e1 ρ1 _ (g1.trans (Go.extra g1.rep hp)) trivial
theorem snd_isi1 {a : Expr} {y : IE} {x : Str} {t : Ty} {np p2 pos : Pos} (ha : Snd pd D lev sc N a y) (hc : ClsN pd sc x t) (hs : noStar [a, .Name x p2] = true) (hg : gloB sc "isinstance" = true) (hf : ("isinstance" : Str) ∈ pd.frees) :
    Snd pd D lev sc N (.Call (.Name "isinstance" np) [a, .Name x p2] [] pos) (.prim (.isi [t]) (.cons y .nil)) :=
  ⟨fun _ _ => rfl, fun X W G => by
    have hp := ClsN.pe (pos := p2) G hc
    refine PE.imp (pe_callB call_isi (G.glo _ hg) (G.pg.free _ hf) (by decide +kernel) (pa_cons (ha.pe X W G) (pa_cons hp.1 pa_nil (by rfl)) (star_cons hs _)) (by decide) (by decide) (star_cons hs _) (by rfl)) fun σ H Q q => ?_
    refine tE_mono (fun v H1 z => ?_) (isi_fin G q)
    obtain ⟨w, o1, o2, _, o3, _⟩ := z
    refine ⟨v, _, _, _, _, rfl, hp.2, o2, G.pg.isa w t o1 hc.ok, ?_⟩
    rw [List.any_cons, List.any_nil, Bool.or_false] at o3
    exact o3⟩
theorem kitAny_ok {X : Cx} {W : WX} (G : Good pd D lev sc N X W) {w : Vt} (o : vtOk pd w = true) : ∀ {ts : List Ty}, (∀ t ∈ ts, tyOk pd t = true) → PySem.W.kitAny X.K (vtU pd.T X.K w) (ts.map (tyU pd.T X.K)) = some (ts.any (vtSub pd.T w))
  | [], _ => rfl
  | t :: ts, h => by
    have ih := kitAny_ok G o (ts := ts) fun z hz => h z (List.mem_cons_of_mem _ hz)
    rw [List.map_cons, List.any_cons]
    unfold PySem.W.kitAny
    rw [G.pg.isa w t o (h t List.mem_cons_self)]
    cases c : vtSub pd.T w t with
    | true => rfl
    | false => exact ih
/-- isinstance(a, (x, y)) -/
theorem snd_isi2 {a : Expr} {y : IE} {x1 x2 : Str} {t1 t2 : Ty} {np p1 p2 p3 pos : Pos} {j : Nat} (ha : Snd pd D lev sc N a y) (hc1 : ClsN pd sc x1 t1) (hc2 : ClsN pd sc x2 t2) (hs : noStar [a, .Tuple [.Name x1 p1, .Name x2 p2] j p3] = true) (hg : gloB sc "isinstance" = true) (hf : ("isinstance" : Str) ∈ pd.frees) :
    Snd pd D lev sc N (.Call (.Name "isinstance" np) [a, .Tuple [.Name x1 p1, .Name x2 p2] j p3] [] pos) (.prim (.isi [t1, t2]) (.cons y .nil)) :=
  ⟨fun _ _ => rfl, fun X W G => by
    have h1 := ClsN.pe (pos := p1) G hc1
    have h2 := ClsN.pe (pos := p2) G hc2
    refine PE.imp (pe_callB call_isiT (G.glo _ hg) (G.pg.free _ hf) (by decide +kernel) (pa_cons (ha.pe X W G) (pa_cons (pe_tup (pa_cons h1.1 (pa_cons h2.1 pa_nil (by rfl)) (by rfl))) pa_nil (by rfl)) (star_cons hs _)) (by decide) (by decide) (star_cons hs _) (by rfl)) fun σ H Q q => ?_
    refine tE_mono (fun v H1 z => ?_) (isi_fin G q)
    obtain ⟨w, o1, _, o2, _, o3⟩ := z
    refine ⟨by show 2 ≤ sizeLine; rw [line_eq]; decide, fun p hp => ?_⟩
    refine ⟨v, p, _, _, _, _, rfl, upd_same, .cons h1.2 (.cons h2.2 .nil), o2 p _ hp, kitAny_ok G o1 (ts := [t1, t2]) fun t ht => ?_, o3 p _ hp⟩
    rcases List.mem_cons.mp ht with e | ht
    · rw [e]; exact hc1.ok
    · rw [List.mem_singleton.mp ht]; exact hc2.ok⟩

/-! ### d.get(k), d.get(k, x) -/
theorem m1_ok {o e : Expr} {m : Str} {apos cpos : Pos} {X : Cx} (hb : plainB o = true) (hs : noStar [e] = true) (hl : (apos.endLine == cpos.line) = true) : M1 X o m apos e cpos where
  base := base_ok hb _ _ _
  few := by rw [star_all cpos X.env hs]; rfl
  line := hl
  trees := by rw [star_cons hs]; rfl
theorem m2_ok {o e f : Expr} {m : Str} {apos cpos : Pos} {X : Cx} (hb : plainB o = true) (hs : noStar [e, f] = true) (hl : (apos.endLine == cpos.line) = true) : M2 X o m apos e f cpos where
  base := base_ok hb _ _ _
  few := by rw [star_all cpos X.env hs]; rfl
  line := hl
  trees := by rw [star_cons hs, star_cons (star_rest hs)]; rfl
theorem getD_vx {T : Tab} {K : PySem.W.Frag} {ρ : Nat → Addr} {o : Option LV} {d : LV} : (o.map (vx T K ρ)).getD (vx T K ρ d) = vx T K ρ (o.getD d) := by cases o <;> rfl
/-! ### methods of built-ins -/
def B1Ok (T : Tab) (K : PySem.W.Frag) (b : Bk) (p : P) (r : V → List V → Hp → VK → Prop) : Prop := ∀ ρ h H v w z h' Q, Rep T K ρ h H → inb h.n v → inb h.n w → prim T p [v, w] h = some (z, h') →
  (∀ ρ' H', Go T K ρ h H ρ' h' H' → inb h'.n z → Q (vx T K ρ' z) H') → r (vx T K ρ v) [vx T K ρ w] H Q
def B0Ok (T : Tab) (K : PySem.W.Frag) (b : Bk) (p : P) (r : V → List V → Hp → VK → Prop) : Prop := ∀ ρ h H v z h' Q, Rep T K ρ h H → inb h.n v → prim T p [v] h = some (z, h') →
  (∀ ρ' H', Go T K ρ h H ρ' h' H' → inb h'.n z → Q (vx T K ρ' z) H') → r (vx T K ρ v) [] H Q
def bkT : Bk → String
  | .lst => "list" | .dic => "dict" | .str => "str"
theorem bk_ty {T : Tab} {K : PySem.W.Frag} {ρ : Nat → Addr} {h : LH} {H : Hp} (r : Rep T K ρ h H) {b : Bk} {v : LV} (e : isBk h b v = true) : tyV K (bkT b) (vx T K ρ v) H := by
  cases v with
  | str s => have := of_decide_eq_true (show decide (b = .str) = true from e); subst this; rfl
  | ref a =>
    unfold isBk at e
    dsimp only at e
    cases g : h.get a with
    | none => rw [g] at e; cases e
    | some o =>
      rw [g] at e
      cases o with
      | lst xs => have := of_decide_eq_true (show decide (b = .lst) = true from e); subst this; exact .inl ⟨rfl, _, SqL.of (rep_lst r g).1⟩
      | dic xs => have := of_decide_eq_true (show decide (b = .dic) = true from e); subst this; exact .inr (.inr (.inl ⟨rfl, .inl ⟨_, (rep_dic r g).1⟩⟩))
      | _ => cases e
  | _ => cases e
theorem bk_dic {T : Tab} {K : PySem.W.Frag} {ρ : Nat → Addr} {h : LH} {H : Hp} (r : Rep T K ρ h H) {v : LV} (e : isBk h .dic v = true) : ∃ a, vx T K ρ v = .ref a ∧ IsD H a := by
  cases v with
  | str s => cases e
  | ref a =>
    unfold isBk at e
    dsimp only at e
    cases g : h.get a with
    | none => rw [g] at e; cases e
    | some o =>
      rw [g] at e
      cases o with
      | dic xs => exact ⟨_, rfl, .inl ⟨_, .inl (rep_dic r g).1⟩⟩
      | lst xs => cases e
      | _ => cases e
  | _ => cases e
theorem bm1_of {X : Cx} {W : WX} (G : Good pd D lev sc N X W) {b : Bk} {p : P} {o a : IE} {σ : L2.St} {H : Hp} {Q : VK} {R : V → Hp → Prop} {S : V → V → Hp → Prop}
    (hR : ∀ ρ h H v, Rep pd.T X.K ρ h H → isBk h b v = true → R (vx pd.T X.K ρ v) H)
    (hS : ∀ ρ h H v w z h', Rep pd.T X.K ρ h H → inb h.n v → inb h.n w → prim pd.T p [v, w] h = some (z, h') → (∀ ρ' H', Go pd.T X.K ρ h H ρ' h' H' → inb h'.n z → Q (vx pd.T X.K ρ' z) H') → S (vx pd.T X.K ρ v) (vx pd.T X.K ρ w) H)
    (q : tE pd.T X.K D W (.bmeth b p o (.cons a .nil)) σ H Q) : tE pd.T X.K D W o σ H fun x H1 => R x H1 ∧ tE pd.T X.K D W a σ H1 fun y H2 => S x y H2 := by
  obtain ⟨ρ, s, h, k, x, hs, hr, e, hk, hx⟩ := q
  refine ⟨ρ, s, h, _, x, hs, hr, e, fun v h1 e1 ρ1 H1 g1 iv => ?_, hx⟩
  have e1 : (bif isBk h1 b v then rE D a s h1 (fun w h2 => match (generalizing := false) prim D.T p [v, w] h2 with
    | some (z, h3) => k z h3
    | none => x .bad) x else x .bad) := e1
  cases c : isBk h1 b v with
  | false => rw [c] at e1; exact (hx _ e1).elim
  | true =>
    rw [c] at e1
    refine ⟨hR ρ1 h1 H1 v g1.rep c, ρ1, s, h1, _, x, hs.go g1, g1.rep, e1, fun w h2 e2 ρ2 H2 g2 iw => ?_, hx.back g1⟩
    have e2 : (match (generalizing := false) prim D.T p [v, w] h2 with
      | some (z, h3) => k z h3
      | none => x .bad) := e2
    rw [G.pg.dt] at e2
    rw [← vx_ext g2.ext iv]
    cases hb : prim pd.T p [v, w] h2 with
    | none => rw [hb] at e2; exact (hx _ e2).elim
    | some z =>
      obtain ⟨z, h3⟩ := z
      rw [hb] at e2
      exact hS ρ2 h2 H2 v w z h3 g2.rep (inb_mono iv g2.le) iw hb fun ρ' H' g iz => hk z h3 e2 ρ' H' (g1.trans (g2.trans g)) iz
theorem bm0_of {X : Cx} {W : WX} (G : Good pd D lev sc N X W) {b : Bk} {p : P} {o : IE} {σ : L2.St} {H : Hp} {Q : VK} {S : V → Hp → Prop}
    (hS : ∀ ρ h H v z h', Rep pd.T X.K ρ h H → isBk h b v = true → inb h.n v → prim pd.T p [v] h = some (z, h') → (∀ ρ' H', Go pd.T X.K ρ h H ρ' h' H' → inb h'.n z → Q (vx pd.T X.K ρ' z) H') → S (vx pd.T X.K ρ v) H)
    (q : tE pd.T X.K D W (.bmeth b p o .nil) σ H Q) : tE pd.T X.K D W o σ H fun x H1 => S x H1 := by
  obtain ⟨ρ, s, h, k, x, hs, hr, e, hk, hx⟩ := q
  refine ⟨ρ, s, h, _, x, hs, hr, e, fun v h1 e1 ρ1 H1 g1 iv => ?_, hx⟩
  have e1 : (bif isBk h1 b v then (match (generalizing := false) prim D.T p [v] h1 with
    | some (z, h3) => k z h3
    | none => x .bad) else x .bad) := e1
  cases c : isBk h1 b v with
  | false => rw [c] at e1; exact (hx _ e1).elim
  | true =>
    rw [c] at e1
    dsimp only [cond] at e1
    rw [G.pg.dt] at e1
    cases hb : prim pd.T p [v] h1 with
    | none => rw [hb] at e1; exact (hx _ e1).elim
    | some z =>
      obtain ⟨z, h3⟩ := z
      rw [hb] at e1
      exact hS ρ1 h1 H1 v z h3 g1.rep c iv hb fun ρ' H' g iz => hk z h3 e1 ρ' H' (g1.trans g) iz
theorem snd_bm1 {b : Bk} {p : P} {id : String} {n : Str} {o a : Expr} {x y : IE} {apos cpos : Pos} {r : V → List V → Hp → VK → Prop} (ho : Snd pd D lev sc N o x) (ha : SndA' pd D lev sc N [a] (.cons y .nil)) (hae : Snd pd D lev sc N a y) (hb : plainB o = true) (hl : (apos.endLine == cpos.line) = true)
    (pa : PlainAttrs (bkT b)) (slot : Slot (bkT b) n id) (hty : typeOf (.builtin id) = pure (.type "method_descriptor")) (hm : ∀ X : Cx, MtR X id r) (ok : ∀ T K, B1Ok T K b p r) :
    Snd pd D lev sc N (.Call (.Attribute o n apos) [a] [] cpos) (.bmeth b p x (.cons y .nil)) :=
  ⟨fun _ _ => rfl, fun X W G => PE.imp (pe_bm pa slot hty (hm X) (ho.pe X W G) (pa_cons (hae.pe X W G) pa_nil (star_cons ha.ns _)) (base_ok hb _ _ _) (by rw [star_all cpos X.env ha.ns]; rfl) hl (star_cons ha.ns _) (by rfl)) fun σ H Q q =>
    bm1_of G (R := fun x H => tyV X.K (bkT b) x H) (S := fun x y H => r x [y] H Q) (fun ρ h H v r e => bk_ty r e) (fun ρ h H v w z h' r iv iw e q => ok pd.T X.K ρ h H v w z h' Q r iv iw e q) q⟩
theorem snd_bm0 {b : Bk} {p : P} {id : String} {n : Str} {o : Expr} {x : IE} {apos cpos : Pos} {r : V → List V → Hp → VK → Prop} (ho : Snd pd D lev sc N o x) (hb : plainB o = true) (hl : (apos.endLine == cpos.line) = true)
    (pa : PlainAttrs (bkT b)) (slot : Slot (bkT b) n id) (hty : typeOf (.builtin id) = pure (.type "method_descriptor")) (hm : ∀ X : Cx, MtR X id r) (ok : ∀ T K, B0Ok T K b p r) :
    Snd pd D lev sc N (.Call (.Attribute o n apos) [] [] cpos) (.bmeth b p x .nil) :=
  ⟨fun _ _ => rfl, fun X W G => PE.imp (pe_bm0 pa slot hty (hm X) (ho.pe X W G) (base_ok hb _ _ _) hl) fun σ H Q q =>
    bm0_of G (S := fun x H => tyV X.K (bkT b) x H ∧ r x [] H Q) (fun ρ h H v z h' r e iv e2 q => ⟨bk_ty r e, ok pd.T X.K ρ h H v z h' Q r iv e2 q⟩) q⟩
theorem b_append {T : Tab} {K : PySem.W.Frag} : B1Ok T K .lst .append rAppend := by
  intro ρ h H v w z h' Q r iv iw e q
  have e : (match (generalizing := false) v with
    | .ref a => match h.get a with
      | some (.lst xs) => bif fits xs.length then okn .non (h.set a (.lst (xs ++ [w]))) else none
      | _ => none
    | _ => none) = some (z, h') := e
  cases v with
  | ref a =>
    dsimp only at e
    cases g : h.get a with
    | none => rw [g] at e; cases e
    | some o =>
      rw [g] at e
      obtain ⟨xs, rfl⟩ : ∃ xs, o = .lst xs := by cases o <;> first | exact ⟨_, rfl⟩ | (exact nomatch e)
      dsimp only at e
      cases c : fits xs.length with
      | false => rw [c] at e; cases e
      | true =>
        rw [c] at e
        obtain ⟨rfl, rfl⟩ := okn_eq e
        obtain ⟨q1, q2, _⟩ := rep_lst r g
        have l := fits_line c
        refine ⟨_, _, _, rfl, rfl, q1, by rw [List.length_map, line_eq]; omega, ?_⟩
        have g2 := Rep.set (o := .lst (xs ++ [w])) (u := .lst (xs.map (vx T K ρ) ++ [vx T K ρ w])) r (get_lt g) ⟨fun v hv => ?_, by rw [List.length_append, List.length_singleton]; omega, by rw [List.map_append]; rfl⟩
        · exact q ρ _ g2 trivial
        · rcases List.mem_append.mp hv with hv | hv
          · exact q2 v hv
          · rw [List.mem_singleton.mp hv]; exact iw
  | _ => cases e
/-- d.get(k) -/
theorem snd_get1 {o e : Expr} {x y : IE} {apos cpos : Pos} (ho : Snd pd D lev sc N o x) (he : Snd pd D lev sc N e y) (hb : plainB o = true) (hs : noStar [e] = true) (hl : (apos.endLine == cpos.line) = true) :
    Snd pd D lev sc N (.Call (.Attribute o "get" apos) [e] [] cpos) (.bmeth .dic .get1 x (.cons y .nil)) :=
  ⟨fun _ _ => rfl, fun X W G => PE.imp (pe_dget1 G.hu (ho.pe X W G) (he.pe X W G) (m1_ok hb hs hl)) fun σ H Q q => by
    refine tE_mono (fun u H1 z => ?_) (bm1_of G (R := fun x H => ∃ a, x = .ref a ∧ IsD H a) (S := fun x y H => ∀ a, x = .ref a → ∃ o, DGet H a y o ∧ Q (o.getD .non) H) (fun ρ h H v r e => bk_dic r e) (fun ρ h H v w z h' r iv iw e q => ?_) q)
    · obtain ⟨⟨a, ea, hd⟩, q⟩ := z
      exact ⟨a, ea, hd, tE_mono (fun y H2 z => z a ea) q⟩
    · intro a ea
      have e : (match (generalizing := false) v with
        | .ref a => match h.get a with
          | some (.dic kvs) => bif keyOk w then okn ((L3.getD w kvs).getD .non) h else none
          | _ => none
        | _ => none) = some (z, h') := e
      cases v with
      | ref b =>
        dsimp only at e
        cases ea
        cases g : h.get b with
        | none => rw [g] at e; cases e
        | some o =>
          rw [g] at e
          obtain ⟨xs, rfl⟩ : ∃ xs, o = .dic xs := by cases o <;> first | exact ⟨_, rfl⟩ | (exact nomatch e)
          dsimp only at e
          cases c : keyOk w with
          | false => rw [c] at e; cases e
          | true =>
            rw [c] at e
            obtain ⟨rfl, rfl⟩ := okn_eq e
            refine ⟨_, dget_of r g c, ?_⟩
            rw [show (V.non : V) = vx pd.T X.K ρ .non from rfl, getD_vx]
            refine q ρ H (.refl r) ?_
            cases g2 : L3.getD w xs with
            | none => trivial
            | some y =>
              obtain ⟨p, hp, rfl⟩ := getD_mem g2
              exact ((rep_dic r g).2 p hp).2
      | _ => cases e⟩
/-- d.get(k, x) -/
theorem snd_get2 {o e f : Expr} {x y w : IE} {apos cpos : Pos} (ho : Snd pd D lev sc N o x) (he : Snd pd D lev sc N e y) (hf : Snd pd D lev sc N f w) (hb : plainB o = true) (hs : noStar [e, f] = true) (hl : (apos.endLine == cpos.line) = true) :
    Snd pd D lev sc N (.Call (.Attribute o "get" apos) [e, f] [] cpos) (.bmeth .dic .get2 x (.cons y (.cons w .nil))) :=
  ⟨fun _ _ => rfl, fun X W G => PE.imp (pe_dget2 G.hu (ho.pe X W G) (he.pe X W G) (hf.pe X W G) (m2_ok hb hs hl)) fun σ H Q q => by
    obtain ⟨ρ, s, h, k, x', hs, hr, e, hk, hx⟩ := q
    refine ⟨ρ, s, h, _, x', hs, hr, e, fun v h1 e1 ρ1 H1 g1 iv => ?_, hx⟩
    have e1 : (bif isBk h1 .dic v then rE D y s h1 (fun u h2 => rE D w s h2 (fun z h3 => match (generalizing := false) prim D.T .get2 [v, u, z] h3 with
      | some (z, h3) => k z h3
      | none => x' .bad) x') x' else x' .bad) := e1
    cases c : isBk h1 .dic v with
    | false => rw [c] at e1; exact (hx _ e1).elim
    | true =>
      rw [c] at e1
      obtain ⟨a, ea, hd⟩ := bk_dic g1.rep c
      refine ⟨a, ea, hd, ρ1, s, h1, _, x', hs.go g1, g1.rep, e1, fun u h2 e2 ρ2 H2 g2 iu => ?_, hx.back g1⟩
      refine ⟨ρ2, s, h2, _, x', (hs.go g1).go g2, g2.rep, e2, fun z h3 e3 ρ3 H3 g3 iz => ?_, (hx.back g1).back g2⟩
      have e3 : (match (generalizing := false) prim D.T .get2 [v, u, z] h3 with
        | some (z, h3) => k z h3
        | none => x' .bad) := e3
      rw [G.pg.dt] at e3
      rw [← vx_ext g3.ext iu]
      cases v with
      | ref b =>
        have ea' : ρ1 b = a := V.ref.inj ea
        have e3 : (match (generalizing := false) (match h3.get b with
          | some (.dic kvs) => bif keyOk u then okn ((L3.getD u kvs).getD z) h3 else none
          | _ => none) with
          | some (z, h3) => k z h3
          | none => x' .bad) := e3
        cases g : h3.get b with
        | none => rw [g] at e3; exact (hx _ e3).elim
        | some o =>
          rw [g] at e3
          cases o with
          | dic kvs =>
            dsimp only at e3
            cases c2 : keyOk u with
            | false => rw [c2] at e3; exact (hx _ e3).elim
            | true =>
              rw [c2] at e3
              have d := dget_of g3.rep g c2
              rw [(g2.trans g3).ext b iv, ea'] at d
              refine ⟨_, d, ?_⟩
              rw [getD_vx]
              refine hk _ h3 e3 ρ3 H3 (g1.trans (g2.trans g3)) ?_
              cases g4 : L3.getD u kvs with
              | none => exact iz
              | some y =>
                obtain ⟨p, hp, rfl⟩ := getD_mem g4
                exact ((rep_dic g3.rep g).2 p hp).2
          | _ => exact (hx _ e3).elim
      | _ => exact (hx _ e3).elim⟩
end
end L3

/-! L3J: displays of dicts, what is walked, targets, list comprehensions. -/
set_option autoImplicit false
set_option linter.all false
set_option maxRecDepth 100000
set_option maxHeartbeats 1000000
namespace L3
open PySem PyProof.Rows L2

section
variable {T : Tab} {K : PySem.W.Frag}
/-- an address was taken ahead, the object is told of behind -/
theorem Go.late {ρ ρ1 : Nat → Addr} {h h1 : LH} {H H1 : Hp} {p : Addr} {u0 u : HO} {o : LO} (r : Rep T K ρ h H) (hp : H p = none) (g : Go T K ρ h (upd H p u0) ρ1 h1 H1) (q : ro T K (put1 ρ1 h1.n p) (h1.n + 1) h1.c o u) :
    Go T K ρ h H (put1 ρ1 h1.n p) (h1.put o) (upd H1 p u) := by
  have ne0 : ∀ a, a < h.n → ρ a ≠ p := fun a ha z => by
    obtain ⟨u', e⟩ := r.at ha
    rw [z, hp] at e; cases e
  have ne1 : ∀ a, a < h1.n → ρ1 a ≠ p := fun a ha z => by
    rcases g.fr.new a ha with ⟨c, hc, e⟩ | e
    · exact ne0 c hc (e.symm.trans z)
    · rw [z, upd_same] at e; cases e
  refine ⟨fun a ha => (put1_ext a (Nat.lt_of_lt_of_le ha g.le)).trans (g.ext a ha), Nat.le_succ_of_le g.le, ⟨by show (o :: h1.os).length = h1.n + 1; rw [List.length_cons, g.rep.len], fun a o' e => ?_, fun a b ha hb e => ?_⟩, ⟨fun b o' e hb => ?_, fun a ha => ?_⟩⟩
  · have ha : a < h1.n + 1 := (get_lt e : a < (h1.put o).n)
    by_cases z : a = h1.n
    · subst z
      rw [get_put_self] at e
      cases e
      exact ⟨u, by rw [put1_self, upd_same], q⟩
    · have ha' : a < h1.n := by omega
      rw [get_put_old ha'] at e
      obtain ⟨u', e', q'⟩ := g.rep.obj a o' e
      refine ⟨u', ?_, ro_mono put1_ext (Nat.le_succ _) (Nat.le_refl _) q'⟩
      rw [put1_ext a ha', upd_ne (ne1 a ha')]
      exact e'
  · have ha : a < h1.n + 1 := ha
    have hb : b < h1.n + 1 := hb
    by_cases za : a = h1.n
    · by_cases zb : b = h1.n
      · rw [za, zb]
      · have hb' : b < h1.n := by omega
        rw [za, put1_self, put1_ext b hb'] at e
        exact absurd e.symm (ne1 b hb')
    · have ha' : a < h1.n := by omega
      by_cases zb : b = h1.n
      · rw [zb, put1_self, put1_ext a ha'] at e
        exact absurd e (ne1 a ha')
      · have hb' : b < h1.n := by omega
        rw [put1_ext a ha', put1_ext b hb'] at e
        exact g.rep.inj a b ha' hb' e
  · have nb : b ≠ p := by intro z; rw [z, hp] at e; cases e
    rw [upd_ne nb]
    exact g.fr.keep b o' (by rw [upd_ne nb]; exact e) hb
  · have ha : a < h1.n + 1 := ha
    by_cases z : a = h1.n
    · right; rw [z, put1_self]; exact hp
    · have ha' : a < h1.n := by omega
      rw [put1_ext a ha']
      rcases g.fr.new a ha' with ⟨c, hc, e⟩ | e
      · exact .inl ⟨c, hc, e⟩
      · rw [upd_ne (ne1 a ha')] at e
        exact .inr e

/-! ### tables -/
theorem putK_map {ρ : Nat → Addr} {k v : LV} (hk : keyOk k = true) : ∀ {acc : List (LV × LV)}, (∀ p ∈ acc, keyOk p.1 = true) → (acc.map (·.1)).Nodup →
    putK (acc.map fun p => (kx p.1, vx T K ρ p.2)) (kx k) (vx T K ρ v) = (putD k v acc).map fun p => (kx p.1, vx T K ρ p.2) := by
  intro acc hp nd
  have key : ∀ {acc : List (LV × LV)}, (∀ p ∈ acc, keyOk p.1 = true) → (acc.map (·.1)).Nodup →
      (((acc.map fun p => (kx p.1, vx T K ρ p.2)).any fun kv => decide (kv.1 = kx k)) = true → ((acc.map fun p => (kx p.1, vx T K ρ p.2)).map fun kv => if kv.1 = kx k then (kv.1, vx T K ρ v) else kv) = (putD k v acc).map fun p => (kx p.1, vx T K ρ p.2)) ∧
      (((acc.map fun p => (kx p.1, vx T K ρ p.2)).any fun kv => decide (kv.1 = kx k)) = false → (acc.map fun p => (kx p.1, vx T K ρ p.2)) ++ [(kx k, vx T K ρ v)] = (putD k v acc).map fun p => (kx p.1, vx T K ρ p.2)) := by
    intro acc
    induction acc with
    | nil => exact fun _ _ => ⟨fun e => by simp at e, fun _ => rfl⟩
    | cons p r ih =>
      obtain ⟨j, w⟩ := p
      intro hp nd
      rw [List.map_cons, List.nodup_cons] at nd
      have hj := hp (j, w) List.mem_cons_self
      obtain ⟨i1, i2⟩ := ih (fun q hq => hp q (List.mem_cons_of_mem _ hq)) nd.2
      unfold putD
      by_cases e : j = k
      · subst e
        rw [decide_eq_true rfl]
        refine ⟨fun _ => ?_, fun z => by simp at z⟩
        have rest : ((r.map fun p => (kx p.1, vx T K ρ p.2)).map fun kv => if kv.1 = kx j then (kv.1, vx T K ρ v) else kv) = r.map fun p => (kx p.1, vx T K ρ p.2) := by
          rw [List.map_map]
          refine List.map_congr_left fun q hq => ?_
          have : kx q.1 ≠ kx j := fun z => nd.1 (by rw [← kx_inj (hp q (List.mem_cons_of_mem _ hq)) hj z]; exact List.mem_map_of_mem hq)
          show (if kx q.1 = kx j then _ else _) = _
          rw [if_neg this]
        simp only [List.map_cons, if_true, cond]
        rw [rest]
      · rw [decide_eq_false e]
        have ne : kx j ≠ kx k := fun z => e (kx_inj hj hk z)
        refine ⟨fun z => ?_, fun z => ?_⟩
        · simp only [List.map_cons, List.any_cons, decide_eq_false ne, Bool.false_or] at z
          have := i1 z
          simp only [List.map_cons, cond, if_neg ne]
          rw [this]
        · simp only [List.map_cons, List.any_cons, decide_eq_false ne, Bool.false_or] at z
          have := i2 z
          simp only [List.map_cons, List.cons_append, cond]
          rw [this]
  unfold putK
  obtain ⟨k1, k2⟩ := key hp nd
  split
  · rename_i c; exact k1 c
  · rename_i c; exact k2 (by simpa using c)
theorem putD_keys {k v : LV} (hk : keyOk k = true) : ∀ {acc : List (LV × LV)}, (∀ p ∈ acc, keyOk p.1 = true) → (acc.map (·.1)).Nodup → (∀ p ∈ putD k v acc, keyOk p.1 = true) ∧ ((putD k v acc).map (·.1)).Nodup ∧ (putD k v acc).length ≤ acc.length + 1 ∧ (∀ j, j ∈ (putD k v acc).map (·.1) → j = k ∨ j ∈ acc.map (·.1))
  | [], _, _ => ⟨fun p hp => by rw [List.mem_singleton.mp hp]; exact hk, by simp [putD], by simp [putD], fun j hj => .inl (by simpa [putD] using hj)⟩
  | (j, w) :: r, hp, nd => by
    rw [List.map_cons, List.nodup_cons] at nd
    obtain ⟨i1, i2, i3, i4⟩ := putD_keys (v := v) hk (fun q hq => hp q (List.mem_cons_of_mem _ hq)) nd.2
    unfold putD
    by_cases e : j = k
    · subst e
      rw [decide_eq_true rfl]
      refine ⟨fun p q => ?_, ?_, ?_, fun i hi => ?_⟩
      · rcases List.mem_cons.mp q with z | z
        · rw [z]; exact hk
        · exact hp p (List.mem_cons_of_mem _ z)
      · show ((j :: r.map (·.1)) : List LV).Nodup
        exact List.nodup_cons.mpr nd
      · show (r.length + 1) ≤ _; simp
      · exact .inr hi
    · rw [decide_eq_false e]
      refine ⟨fun p q => ?_, ?_, ?_, fun i hi => ?_⟩
      · rcases List.mem_cons.mp q with z | z
        · rw [z]; exact hp (j, w) List.mem_cons_self
        · exact i1 p z
      · show ((j :: (putD k v r).map (·.1)) : List LV).Nodup
        exact List.nodup_cons.mpr ⟨fun z => (i4 j z).elim e nd.1, i2⟩
      · show ((putD k v r).length + 1) ≤ (r.length + 1) + 1; omega
      · rcases List.mem_cons.mp (show i ∈ j :: (putD k v r).map (·.1) from hi) with z | z
        · exact .inr (by rw [z]; exact List.mem_cons_self)
        · exact (i4 i z).imp id fun y => List.mem_cons_of_mem _ y
theorem putD_inb {n : Nat} {k v : LV} (iv : inb n v) : ∀ {acc : List (LV × LV)}, (∀ p ∈ acc, inb n p.2) → ∀ p ∈ putD k v acc, inb n p.2
  | [], _, p, hp => by rw [List.mem_singleton.mp hp]; exact iv
  | (j, w) :: r, h, p, hp => by
    unfold putD at hp
    by_cases e : j = k
    · rw [decide_eq_true e] at hp
      rcases List.mem_cons.mp hp with z | z
      · rw [z]; exact iv
      · exact h p (List.mem_cons_of_mem _ z)
    · rw [decide_eq_false e] at hp
      rcases List.mem_cons.mp hp with z | z
      · rw [z]; exact h (j, w) List.mem_cons_self
      · exact putD_inb iv (fun q hq => h q (List.mem_cons_of_mem _ hq)) p z
def pairUp {α : Type} : List α → List (α × α)
  | a :: b :: r => (a, b) :: pairUp r
  | _ => []
theorem mkD_ok {ρ : Nat → Addr} {n : Nat} : ∀ {vs : List LV} {acc kvs : List (LV × LV)}, mkD vs acc = some kvs → (∀ v ∈ vs, inb n v) → (∀ p ∈ acc, keyOk p.1 = true) → (∀ p ∈ acc, inb n p.2) → (acc.map (·.1)).Nodup →
    ((∀ p ∈ kvs, keyOk p.1 = true ∧ inb n p.2) ∧ (kvs.map (·.1)).Nodup ∧ kvs.length ≤ acc.length + vs.length) ∧
    ∃ ks : List (Key × V), pairUp (vs.map (vx T K ρ)) = ks.map (fun kv => (kV kv.1, kv.2)) ∧ ks.length * 2 ≤ vs.length ∧ mergeK (acc.map fun p => (kx p.1, vx T K ρ p.2)) ks = kvs.map fun p => (kx p.1, vx T K ρ p.2)
  | [], acc, kvs, e, _, h1, h2, nd => by
    cases e
    exact ⟨⟨fun p hp => ⟨h1 p hp, h2 p hp⟩, nd, by simp⟩, [], rfl, by simp, rfl⟩
  | [_], _, _, e, _, _, _, _ => by cases e
  | k :: v :: r, acc, kvs, e, iv, h1, h2, nd => by
    unfold mkD at e
    cases c : keyOk k with
    | false => rw [c] at e; cases e
    | true =>
      rw [c] at e
      obtain ⟨p1, p2, p3, _⟩ := putD_keys (v := v) c h1 nd
      obtain ⟨⟨q1, q2, q3⟩, ks, e1, e2, e3⟩ := mkD_ok (ρ := ρ) (vs := r) (acc := putD k v acc) (show mkD r (putD k v acc) = some kvs from e) (fun w hw => iv w (List.mem_cons_of_mem _ (List.mem_cons_of_mem _ hw))) p1 (putD_inb (iv v (by simp)) h2) p2
      refine ⟨⟨q1, q2, by simp only [List.length_cons]; omega⟩, (kx k, vx T K ρ v) :: ks, ?_, by simp only [List.length_cons]; omega, ?_⟩
      · show (vx T K ρ k, vx T K ρ v) :: pairUp (r.map (vx T K ρ)) = (kV (kx k), vx T K ρ v) :: ks.map _
        rw [e1, kx_kV (T := T) (K := K) (ρ := ρ) c]
      · show mergeK (putK (acc.map fun p => (kx p.1, vx T K ρ p.2)) (kx k) (vx T K ρ v)) ks = _
        rw [putK_map c h1 nd]
        exact e3
end

section
variable {pd : PD} {D : Hd Prop} {lev : Nat} {sc : Scope} {N : List Str}
/-- the pairs of a display -/
structure SndP (pd : PD) (D : Hd Prop) (lev : Nat) (sc : Scope) (N : List Str) (ks : List (Option Expr)) (vs : List Expr) (xs : IEs) : Prop where
  some : ks.all (·.isSome) = true
  len : ks.length = vs.length
  pps : ∀ X W (pos : Pos), Good pd D lev sc N X W → ∃ trs, PPs X pos ks vs trs ∧ ∀ σ H Q, tEs pd.T X.K D W xs σ H (fun us H' => Q (pairUp us) H') → tPairs trs σ H Q
theorem sndp_nil : SndP pd D lev sc N [] [] .nil := ⟨rfl, rfl, fun X W pos G => ⟨[], pps_nil, fun σ H Q q => by
  obtain ⟨ρ, s, h, k, x, hs, hr, e, hk, hx⟩ := q
  exact hk [] h e rfl ρ H (.refl hr) (fun v hv => absurd hv (by simp))⟩⟩
theorem sndp_cons {a b : Expr} {ks : List (Option Expr)} {vs : List Expr} {x y : IE} {xs : IEs} (ha : Snd pd D lev sc N a x) (hb : Snd pd D lev sc N b y) (hr : SndP pd D lev sc N ks vs xs) : SndP pd D lev sc N (some a :: ks) (b :: vs) (.cons x (.cons y xs)) :=
  ⟨by rw [List.all_cons, hr.some]; rfl, by rw [List.length_cons, List.length_cons, hr.len], fun X W pos G => by
    obtain ⟨trs, h1, h2⟩ := hr.pps X W pos G
    refine ⟨_, pps_cons (ha.pe X W G) (hb.pe X W G) h1, fun σ H Q q => ?_⟩
    obtain ⟨ρ, s, h, k, x', hs, hr, e, hk, hx⟩ := q
    refine ⟨ρ, s, h, _, x', hs, hr, e, fun v h1 e1 ρ1 H1 g1 iv => ?_, hx⟩
    refine ⟨ρ1, s, h1, _, x', hs.go g1, g1.rep, e1, fun w h2' e2 ρ2 H2 g2 iw => ?_, hx.back g1⟩
    refine h2 _ _ _ ⟨ρ2, s, h2', _, x', (hs.go g1).go g2, g2.rep, e2, fun us h3 e3 l ρ3 H3 g3 iu => ?_, (hx.back g1).back g2⟩
    have z := hk (v :: w :: us) h3 e3 (by show us.length + 1 + 1 = xs.len + 1 + 1; rw [l]) ρ3 H3 (g1.trans (g2.trans g3)) fun u hu => by
      rcases List.mem_cons.mp hu with z | hu
      · rw [z]; exact inb_mono iv (Nat.le_trans g2.le g3.le)
      · rcases List.mem_cons.mp hu with z | hu
        · rw [z]; exact inb_mono iw g3.le
        · exact iu u hu
    rw [← vx_ext g2.ext iv, ← vx_ext g3.ext (inb_mono iv g2.le), ← vx_ext g3.ext iw]
    exact z⟩
theorem snd_dct {ks : List (Option Expr)} {vs : List Expr} {xs : IEs} {pos : Pos} (h : SndP pd D lev sc N ks vs xs) (h0 : ks ≠ []) (h15 : ks.length ≤ 15) (hl : xs.len ≤ 30) : Snd pd D lev sc N (.Dict ks vs pos) (.prim .dct xs) :=
  ⟨fun _ _ => rfl, fun X W G => by
    obtain ⟨trs, h1, h2⟩ := h.pps X W pos G
    refine PE.imp (pe_disp h1 h.some h.len h0 h15) fun σ H Q q p hp => h2 _ _ _ ?_
    obtain ⟨ρ, s, h, k, x, hs, hr, e, hk, hx⟩ := q
    have ge := Go.extra (u := .dK []) hr hp
    refine ⟨ρ, s, h, _, x, hs, ge.rep, e, fun vs h1 e1 l ρ1 H1 g1 iv => ?_, fun o q => ?_⟩
    · have ne0 : ∀ a, a < h.n → ρ a ≠ p := fun a ha z => by
        obtain ⟨u', e⟩ := hr.at ha
        rw [z, hp] at e; cases e
      have e1 : (match (generalizing := false) (bif Nat.ble vs.length 30 then (match (generalizing := false) mkD vs [] with
          | some kvs => okn (.ref h1.n) (h1.put (.dic kvs))
          | none => none) else none) with
        | some (z, h3) => k z h3
        | none => x .bad) := e1
      cases c : Nat.ble vs.length 30 with
      | false => rw [c] at e1; exact (hx _ e1).elim
      | true =>
        rw [c] at e1
        dsimp only [cond] at e1
        cases m : mkD vs [] with
        | none => rw [m] at e1; exact (hx _ e1).elim
        | some kvs =>
          rw [m] at e1
          have c30 := Nat.le_of_ble_eq_true c
          refine ⟨g1.fr.keep p _ upd_same ne0, ?_⟩
          obtain ⟨⟨q1, q2, q3⟩, kk, e2, e3, e4⟩ := mkD_ok (T := pd.T) (K := X.K) (ρ := ρ1) m iv (fun p hp => absurd hp (by simp)) (fun p hp => absurd hp (by simp)) (by simp)
          refine ⟨kk, e2, by omega, ?_⟩
          have q4 : kvs.length ≤ 16000000 := by simp at q3; omega
          have g := Go.late (o := .dic kvs) (u := .dK (mergeK [] kk)) hr hp g1 ⟨⟨fun p hp => ⟨(q1 p hp).1, inb_mono (q1 p hp).2 (Nat.le_succ _)⟩, q2, q4⟩, by
            rw [show (mergeK [] kk) = kvs.map (fun p => (kx p.1, vx pd.T X.K ρ1 p.2)) from e4]
            exact congrArg HO.dK (List.map_congr_left fun p hp => by rw [vx_ext put1_ext (q1 p hp).2])⟩
          have := hk (.ref h1.n) _ e1 _ _ g (Nat.lt_succ_self _)
          rw [show vx pd.T X.K (put1 ρ1 h1.n p) (.ref h1.n) = V.ref p from congrArg V.ref put1_self] at this
          exact this
    · have z := hx o q
      cases o with
      | exc c d h' => exact fun ρ' H' g hd => z ρ' H' (ge.trans g) hd
      | bad => exact z⟩
end
end L3

/-! L3K: what is walked; targets; list comprehensions. -/
set_option autoImplicit false
set_option linter.all false
set_option maxRecDepth 100000
set_option maxHeartbeats 1000000
namespace L3
open PySem PyProof.Rows L2

theorem PI.imp {X : Cx} {tg e : Expr} {t t' : TI} (h : PI X tg e t) (w : ∀ σ H R, t' σ H R → t σ H R) : PI X tg e t' := ⟨fun pins s σ H R I q => h.run pins s σ H R I (w σ H R q)⟩
theorem PG.imp {X : Cx} {e : Expr} {t t' : TG} (h : PG X e t) (w : ∀ v σ H Q, t' v σ H Q → t v σ H Q) : PG X e t' := ⟨fun pins s σ H v u Q I r q => h.run pins s σ H v u Q I r (w v σ H Q q)⟩
theorem PGs.imp {X : Cx} {e : List Expr} {t t' : TGs} (h : PGs X e t) (w : ∀ v σ H Q, t' v σ H Q → t v σ H Q) : PGs X e t' := ⟨fun pins s σ H v u Q I r q => h.run pins s σ H v u Q I r (w v σ H Q q)⟩

/-! ### what is walked -/
def adr (T : Tab) (K : PySem.W.Frag) (ρ : Nat → Addr) : LV → Addr
  | .ref a => ρ a
  | .gl i => He.ga K (T.gn i)
  | _ => 0
def itOf (T : Tab) (K : PySem.W.Frag) (ρ : Nat → Addr) : IT → It
  | .seq v true => Itl K (adr T K ρ v)
  | .seq v false => Itt K (adr T K ρ v)
  | .rng lo n => Itr lo n
def ItOk (T : Tab) (h : LH) : IT → Prop
  | .seq v true => inb h.n v ∧ (seqL h v).isSome = true
  | .seq v false => inb h.n v ∧ (seqT T h v).isSome = true
  | .rng _ _ => True
def iI (T : Tab) (K : PySem.W.Frag) (D : Hd Prop) (W : WX) (ii : II) : TI := fun σ H R => ∃ ρ s h k x, SRel T K ρ h.n s σ ∧ Rep T K ρ h H ∧ rI D ii s h k x ∧
  (∀ j h', k j h' → ItOk T h' j → ∀ ρ' H', Go T K ρ h H ρ' h' H' → R (itOf T K ρ' j) H') ∧ XOk T K ρ h H (fun c d H' => W c d σ H') x

section
variable {X : Cx} {tg : Expr}
def iSeq (K : PySem.W.Frag) (tl : TE) : TI := fun σ H R => tl σ H fun x H1 => ∃ a, x = .ref a ∧ (((∃ xs, SqL K H1 a xs) ∧ R (Itl K a) H1) ∨ ((∃ xs, SqT K H1 a xs) ∧ R (Itt K a) H1))
theorem pi_seq {l : Expr} {tl : TE} (hl : PE X l tl) : PI X tg l (iSeq X.K tl) := by
  refine ⟨fun pins s σ H R I h => ?_⟩
  refine thn (hl.run pins s σ H _ I h) fun v s1 ⟨x, H1, I1, r1, q1⟩ => ?_
  obtain ⟨a, e, q1⟩ := q1
  subst e
  cases r1
  rcases q1 with ⟨⟨xs, hq⟩, q⟩ | ⟨⟨xs, hq⟩, q⟩
  · obtain ⟨its, rv, p, hz⟩ := I1.list hq
    refine wpAny_pyIter_list p.isList ?_
    refine ⟨s1.heap.objs.size, [s1.heap.objs.size], _, _, H1, rfl, I1.kept (t' := s1.toks) fun b o e => Heap.get?_push_of_some _ e, turn_list a _, ⟨_, Heap.get?_push_size _ rfl, rfl, rfl⟩, fun b hb => ?_, q⟩
    have e : b = s1.heap.objs.size := by simpa using hb
    subst e
    exact I1.fpOk (Nat.le_refl _) (I1.hok.fresh (Nat.le_refl _))
  · obtain ⟨its, rv, p, hz⟩ := I1.tuple hq
    refine wpAny_pyIter_tuple (show s1.heap.IsTuple a its.toArray from p) ?_
    refine ⟨s1.heap.objs.size, [s1.heap.objs.size], _, _, H1, rfl, I1.kept (t' := s1.toks) fun b o e => Heap.get?_push_of_some _ e, turn_tuple a _, ⟨_, Heap.get?_push_size _ rfl, rfl, rfl⟩, fun b hb => ?_, q⟩
    have e : b = s1.heap.objs.size := by simpa using hb
    subst e
    exact I1.fpOk (Nat.le_refl _) (I1.hok.fresh (Nat.le_refl _))
end

/-- an iterable's translation -/
structure SndI (pd : PD) (D : Hd Prop) (lev : Nat) (sc : Scope) (N : List Str) (e : Expr) (ii : II) : Prop where
  pi : ∀ X W tg, Good pd D lev sc N X W → PI X tg e (iI pd.T X.K D W ii)
  fs : ∀ env x, foldedSetIterable e env x = pure x
def noSet : Expr → Bool
  | .Set _ _ _ => false
  | _ => true
theorem noSet_ok {e : Expr} (h : noSet e = true) (env : Env) (x : Value) : foldedSetIterable e env x = pure x := by
  cases e <;> first | rfl | cases h
section
variable {pd : PD} {D : Hd Prop} {lev : Nat} {sc : Scope} {N : List Str}
theorem sndi_seq {e : Expr} {x : IE} (he : Snd pd D lev sc N e x) (hn : noSet e = true) : SndI pd D lev sc N e (.seq x) :=
  ⟨fun X W tg G => PI.imp (pi_seq (he.pe X W G)) fun σ H R q => by
    obtain ⟨ρ, s, h, k, x', hs, hr, e, hk, hx⟩ := q
    refine ⟨ρ, s, h, _, x', hs, hr, e, fun v h1 e1 ρ1 H1 g1 iv => ?_, hx⟩
    have e1 : (match (generalizing := false) seqL h1 v with
      | some _ => k (.seq v true) h1
      | none => match seqT D.T h1 v with
        | some _ => k (.seq v false) h1
        | none => x' .bad) := e1
    rw [G.pg.dt] at e1
    cases c : seqL h1 v with
    | some xs =>
      rw [c] at e1
      obtain ⟨q1, a, rfl, ha, q2⟩ := seqL_of g1.rep c
      exact ⟨_, rfl, .inl ⟨⟨_, q2⟩, hk _ h1 e1 ⟨iv, by rw [c]; rfl⟩ ρ1 H1 g1⟩⟩
    | none =>
      rw [c] at e1
      cases c2 : seqT pd.T h1 v with
      | none => rw [c2] at e1; exact (hx _ e1).elim
      | some xs =>
        rw [c2] at e1
        obtain ⟨q1, q3, p, ep, q2⟩ := seqT_of G.pg.gt g1.rep c2
        refine ⟨p, ep, .inr ⟨⟨_, q2⟩, ?_⟩⟩
        have := hk _ h1 e1 ⟨iv, by rw [c2]; rfl⟩ ρ1 H1 g1
        have ea : adr pd.T X.K ρ1 v = p := by
          cases v <;> first | (cases ep; rfl) | cases ep
        show R (Itt X.K p) H1
        rw [← ea]
        exact this, fun env x => noSet_ok hn env x⟩
def kR1 (k : IT → LH → Prop) (x' : XO → Prop) : List LV → LH → Prop := fun vs h1 => match vs with
  | [v] => (match v with
    | .int j => bif decide (-(2 ^ 62) ≤ j) && decide (j < 2 ^ 62) then k (.rng 0 j.toNat) h1 else x' .bad
    | _ => x' .bad)
  | _ => x' .bad
def kR2 (k : IT → LH → Prop) (x' : XO → Prop) : List LV → LH → Prop := fun vs h2 => match vs with
  | [v, w] => (match v, w with
    | .int i, .int j => bif (decide (-(2 ^ 62) ≤ i) && decide (i < 2 ^ 62)) && (decide (-(2 ^ 62) ≤ j) && decide (j < 2 ^ 62)) then k (.rng i (j - i).toNat) h2 else x' .bad
    | _, _ => x' .bad)
  | _ => x' .bad
theorem sndi_rng1 {a : Expr} {x : IE} {np pos : Pos} (ha : Snd pd D lev sc N a x) (hn : noStar [a] = true) (hg : gloB sc "range" = true) (hf : ("range" : Str) ∈ pd.frees) : SndI pd D lev sc N (.Call (.Name "range" np) [a] [] pos) (.rng1 x) :=
  ⟨fun X W tg G => PI.imp (pi_range1 (G.glo _ hg) (G.pg.free _ hf) ((snda_cons ha snda_nil hn).pa X W G) (by rw [star_cons hn]; rfl)) fun σ H R q => by
    obtain ⟨ρ, s, h, k, x', hs, hr, e, hk, hx⟩ := q
    refine ⟨ρ, s, h, _, x', hs, hr, (?_ : rEs D (.cons x .nil) s h (kR1 k x') x'), fun vs h1 e1 l1 ρ1 H1 g1 iv => ?_, hx⟩
    · exact e
    · obtain ⟨v, rfl⟩ := len1 l1
      have e1 : (match (generalizing := false) v with
        | .int j => bif decide (-(2 ^ 62) ≤ j) && decide (j < 2 ^ 62) then k (.rng 0 j.toNat) h1 else x' .bad
        | _ => x' .bad) := e1
      cases v with
      | int j =>
        dsimp only at e1
        cases c : (decide (-(2 ^ 62) ≤ j) && decide (j < 2 ^ 62)) with
        | false => rw [c] at e1; exact (hx _ e1).elim
        | true =>
          rw [c] at e1
          rw [Bool.and_eq_true] at c
          exact ⟨j, rfl, of_decide_eq_true c.1, of_decide_eq_true c.2, hk _ h1 e1 trivial ρ1 H1 g1⟩
      | _ => exact (hx _ e1).elim, fun env x => rfl⟩
theorem sndi_rng2 {a b : Expr} {x y : IE} {np pos : Pos} (ha : Snd pd D lev sc N a x) (hb : Snd pd D lev sc N b y) (hn : noStar [a, b] = true) (hg : gloB sc "range" = true) (hf : ("range" : Str) ∈ pd.frees) : SndI pd D lev sc N (.Call (.Name "range" np) [a, b] [] pos) (.rng2 x y) :=
  ⟨fun X W tg G => PI.imp (pi_range2 (G.glo _ hg) (G.pg.free _ hf) ((snda_cons ha (snda_cons hb snda_nil (star_rest hn)) hn).pa X W G) (by rw [star_cons hn, star_cons (star_rest hn)]; rfl) (by rw [star_cons (star_rest hn)]; rfl)) fun σ H R q => by
    obtain ⟨ρ, s, h, k, x', hs, hr, e, hk, hx⟩ := q
    refine ⟨ρ, s, h, _, x', hs, hr, (?_ : rEs D (.cons x (.cons y .nil)) s h (kR2 k x') x'), fun vs h1 e1 l1 ρ1 H1 g1 iv => ?_, hx⟩
    · exact e
    · obtain ⟨v, w, rfl⟩ := len2 l1
      have e1 : (match (generalizing := false) v, w with
        | .int i, .int j => bif (decide (-(2 ^ 62) ≤ i) && decide (i < 2 ^ 62)) && (decide (-(2 ^ 62) ≤ j) && decide (j < 2 ^ 62)) then k (.rng i (j - i).toNat) h1 else x' .bad
        | _, _ => x' .bad) := e1
      cases v with
      | int i =>
        cases w with
        | int j =>
          dsimp only at e1
          cases c : ((decide (-(2 ^ 62) ≤ i) && decide (i < 2 ^ 62)) && (decide (-(2 ^ 62) ≤ j) && decide (j < 2 ^ 62))) with
          | false => rw [c] at e1; exact (hx _ e1).elim
          | true =>
            rw [c] at e1
            rw [Bool.and_eq_true, Bool.and_eq_true, Bool.and_eq_true] at c
            exact ⟨i, j, rfl, ⟨of_decide_eq_true c.1.1, of_decide_eq_true c.1.2, of_decide_eq_true c.2.1, of_decide_eq_true c.2.2⟩, hk _ h1 e1 trivial ρ1 H1 g1⟩
        | _ => exact (hx _ e1).elim
      | _ => exact (hx _ e1).elim, fun env x => rfl⟩
end

/-! ### targets -/
mutual
def IG.own : IG → List Nat
  | .name i => [i]
  | .drop i => [i]
  | .tup gs => gs.own
  | .sub _ _ => []
  | .fld _ _ => []
def IGs.own : IGs → List Nat
  | .nil => []
  | .cons g gs => g.own ++ gs.own
end
/-- the same but at some slots -/
def Off (vs : List Nat) (σ σ' : L2.St) : Prop := σ'.length = σ.length ∧ ∀ i, i ∉ vs → σ'[i]? = σ[i]?
theorem Off.refl {vs : List Nat} {σ : L2.St} : Off vs σ σ := ⟨rfl, fun _ _ => rfl⟩
theorem Off.trans {vs ws : List Nat} {σ σ' σ'' : L2.St} (a : Off vs σ σ') (b : Off ws σ' σ'') : Off (vs ++ ws) σ σ'' :=
  ⟨b.1.trans a.1, fun i hi => (b.2 i fun z => hi (List.mem_append_right _ z)).trans (a.2 i fun z => hi (List.mem_append_left _ z))⟩
theorem Off.mono {vs ws : List Nat} {σ σ' : L2.St} (a : Off vs σ σ') (h : ∀ i ∈ vs, i ∈ ws) : Off ws σ σ' := ⟨a.1, fun i hi => a.2 i fun z => hi (h i z)⟩
theorem wipe_at {σ : L2.St} {i : Nat} : ∀ {vs : List Nat}, i ∈ vs → i < σ.length → (L2.wipe σ vs)[i]? = some none
  | v :: vs, h, hl => by
    unfold L2.wipe
    by_cases e : v = i
    · subst e; rw [List.getElem?_set_self (by rw [L2.wipe_length]; exact hl)]
    · rw [List.getElem?_set_ne e]
      exact wipe_at ((List.mem_cons.mp h).resolve_left fun z => e z.symm) hl
theorem wipe_off {σ : L2.St} {i : Nat} : ∀ {vs : List Nat}, i ∉ vs → (L2.wipe σ vs)[i]? = σ[i]?
  | [], _ => rfl
  | v :: vs, h => by
    unfold L2.wipe
    rw [List.getElem?_set_ne (fun e : v = i => h (by rw [e]; exact List.mem_cons_self))]
    exact wipe_off fun z => h (List.mem_cons_of_mem _ z)
theorem Off.wipe {vs ws : List Nat} {σ σ' : L2.St} (a : Off vs (L2.wipe σ ws) σ') (h : ∀ i ∈ vs, i ∈ ws) : L2.wipe σ' ws = L2.wipe σ ws := by
  refine List.ext_getElem? fun i => ?_
  have hl : σ'.length = σ.length := by rw [a.1, L2.wipe_length]
  by_cases hi : i ∈ ws
  · by_cases hb : i < σ.length
    · rw [wipe_at hi hb, wipe_at hi (by rw [hl]; exact hb)]
    · rw [List.getElem?_eq_none (by rw [L2.wipe_length]; omega), List.getElem?_eq_none (by rw [L2.wipe_length]; omega)]
  · rw [wipe_off hi, a.2 i (fun z => hi (h i z))]

section
variable (T : Tab) (K : PySem.W.Frag) (D : Hd Prop)
def tG (g : IG) : TG := fun v σ H Q => ∃ ρ s h lv k x, v = vx T K ρ lv ∧ inb h.n lv ∧ SRel T K ρ h.n s σ ∧ Rep T K ρ h H ∧ rG D g lv s h k x ∧ ¬ x .bad ∧
  ∀ s', k s' h → ∀ σ', SRel T K ρ h.n s' σ' → Off g.own σ σ' → Q σ' H
def tGs (g : IGs) : TGs := fun vs σ H Q => ∃ ρ s h lvs k x, vs = lvs.map (vx T K ρ) ∧ (∀ v ∈ lvs, inb h.n v) ∧ SRel T K ρ h.n s σ ∧ Rep T K ρ h H ∧ rGs D g lvs s h k x ∧ ¬ x .bad ∧
  ∀ s', k s' h → ∀ σ', SRel T K ρ h.n s' σ' → Off g.own σ σ' → Q σ' H
end
structure SndG (pd : PD) (D : Hd Prop) (lev : Nat) (sc : Scope) (N : List Str) (e : Expr) (g : IG) : Prop where
  pg : ∀ X W, Good pd D lev sc N X W → PG X e (tG pd.T X.K D g)
  ns : ∀ es env, assignEach (e :: es) env = (false, assign e env) :: assignEach es env
structure SndGs (pd : PD) (D : Hd Prop) (lev : Nat) (sc : Scope) (N : List Str) (es : List Expr) (g : IGs) : Prop where
  pg : ∀ X W, Good pd D lev sc N X W → PGs X es (tGs pd.T X.K D g)
  ln : ∀ env, (assignEach es env).length = es.length
  st : ∀ env, (assignEach es env).findIdx? (·.1) = none
  gl : g.len = es.length
section
variable {pd : PD} {D : Hd Prop} {lev : Nat} {sc : Scope} {N : List Str}
theorem set_off {σ : L2.St} {i : Nat} {o : Option V} : Off [i] σ (σ.set i o) := ⟨List.length_set, fun j hj => List.getElem?_set_ne fun e : i = j => hj (by rw [e]; exact List.mem_cons_self)⟩
theorem sndg_name {i : Nat} {x : Str} {pos : Pos} (hN : N[i]? = some x) (hl : locB sc x = true) : SndG pd D lev sc N (.Name x pos) (.name i) :=
  ⟨fun X W G => PG.imp (pg_name G.nd (by rw [G.nn]; exact hN) (G.loc x hl).1 (G.loc x hl).2) fun v σ H Q q => by
    obtain ⟨ρ, s, h, lv, k, x, rfl, iv, hs, hr, e, hx, hk⟩ := q
    exact hk _ e _ (hs.set i iv) set_off, fun _ _ => rfl⟩
theorem SRel.drop {T : Tab} {K : PySem.W.Frag} {ρ : Nat → Addr} {n : Nat} {s : St} {σ : L2.St} (r : SRel T K ρ n s σ) (i : Nat) (o : Option V) : SRel T K ρ n (s.set i none) (σ.set i o) := by
  refine ⟨by rw [List.length_set, List.length_set]; exact r.len, fun j w e => ?_⟩
  by_cases z : i = j
  · subst z
    by_cases hl : i < s.length
    · rw [List.getElem?_set_self hl] at e; cases e
    · rw [List.getElem?_eq_none (by rw [List.length_set]; omega)] at e; cases e
  · rw [List.getElem?_set_ne z] at e
    rw [List.getElem?_set_ne z]
    exact r.at_ j w e
theorem sndg_drop {i : Nat} {x : Str} {pos : Pos} (hN : N[i]? = some x) (hl : locB sc x = true) : SndG pd D lev sc N (.Name x pos) (.drop i) :=
  ⟨fun X W G => PG.imp (pg_name G.nd (by rw [G.nn]; exact hN) (G.loc x hl).1 (G.loc x hl).2) fun v σ H Q q => by
    obtain ⟨ρ, s, h, lv, k, x, rfl, iv, hs, hr, e, hx, hk⟩ := q
    exact hk _ e _ (hs.drop i _) set_off, fun _ _ => rfl⟩
theorem sndgs_nil : SndGs pd D lev sc N [] .nil :=
  ⟨fun X W G => PGs.imp pgs_nil fun v σ H Q q => by
    obtain ⟨ρ, s, h, lvs, k, x, rfl, iv, hs, hr, e, hx, hk⟩ := q
    have e : (match (generalizing := false) lvs with | [] => k s h | _ => x .bad) := e
    cases lvs with
    | nil => exact ⟨rfl, hk _ e _ hs .refl⟩
    | cons _ _ => exact (hx e).elim, fun _ => rfl, fun _ => rfl, rfl⟩
theorem sndgs_cons {e : Expr} {es : List Expr} {g : IG} {gs : IGs} (hg : SndG pd D lev sc N e g) (hr : SndGs pd D lev sc N es gs) : SndGs pd D lev sc N (e :: es) (.cons g gs) :=
  ⟨fun X W G => PGs.imp (pgs_cons (hg.pg X W G) (hr.pg X W G) (by rw [hg.ns]; rfl)) fun v σ H Q q => by
    obtain ⟨ρ, s, h, lvs, k, x, rfl, iv, hs, hr, e, hx, hk⟩ := q
    have e : (match (generalizing := false) lvs with | v :: r => rG D g v s h (fun σ1 h1 => rGs D gs r σ1 h1 k x) x | [] => x .bad) := e
    cases lvs with
    | nil => exact (hx e).elim
    | cons v r =>
      refine ⟨_, _, rfl, ρ, s, h, v, _, x, rfl, iv v List.mem_cons_self, hs, hr, e, hx, fun s1 e1 σ1 hs1 o1 => ?_⟩
      exact ⟨ρ, s1, h, r, k, x, rfl, fun w hw => iv w (List.mem_cons_of_mem _ hw), hs1, hr, e1, hx, fun s2 e2 σ2 hs2 o2 => hk s2 e2 σ2 hs2 (o1.trans o2)⟩, fun env => by rw [hg.ns]; show (assignEach es env).length + 1 = es.length + 1; rw [hr.ln], fun env => by
      rw [hg.ns]
      have := hr.st env
      simp only [List.findIdx?_cons, this]
      rfl, by show gs.len + 1 = es.length + 1; rw [hr.gl]⟩
theorem sndg_tup {es : List Expr} {gs : IGs} {k : Nat} {pos : Pos} (h : SndGs pd D lev sc N es gs) : SndG pd D lev sc N (.Tuple es k pos) (.tup gs) :=
  ⟨fun X W G => PG.imp (pg_tup (n := es.length) G.calm (h.pg X W G) (h.ln _) (h.st _)) fun v σ H Q q => by
    obtain ⟨ρ, s, h', lv, k, x, rfl, iv, hs, hr, e, hx, hk⟩ := q
    have e : (match (generalizing := false) lv with
      | .ref a => match h'.get a with
        | some (.tup vs) => bif Nat.beq vs.length gs.len then rGs D gs vs s h' k x else x .bad
        | _ => x .bad
      | _ => x .bad) := e
    cases lv with
    | ref a =>
      cases g : h'.get a with
      | none => exact (hx (by simpa [g] using e)).elim
      | some ob =>
        cases ob with
        | tup vs =>
          have e2 : (bif Nat.beq vs.length gs.len then rGs D gs vs s h' k x else x .bad) := by simpa [g] using e
          obtain ⟨q1, q2, _⟩ := rep_tup hr g
          cases ln : Nat.beq vs.length gs.len with
          | false => rw [ln] at e2; exact (hx e2).elim
          | true =>
          rw [ln] at e2
          have ln : vs.length = es.length := (Nat.eq_of_beq_eq_true ln).trans h.gl
          exact ⟨_, _, rfl, SqT.of q1, by rw [List.length_map]; exact ln, ρ, s, h', vs, k, x, rfl, q2, hs, hr, e2, hx, hk⟩
        | _ => exact (hx (by simpa [g] using e)).elim
    | _ => exact (hx e).elim, fun _ _ => rfl⟩
end

/-! ### comprehensions -/
theorem free_relS {sc : Scope} : ∀ {names : List (Str × NameKind)} {x : Str}, names.lookup x = some .free →
    (names.map fun (n, k) => if (k == NameKind.free && sc.kind == .function && sc.names.lookup n == some .cell) then (n, NameKind.cell) else (n, k)).lookup x = some .free ∨
    (names.map fun (n, k) => if (k == NameKind.free && sc.kind == .function && sc.names.lookup n == some .cell) then (n, NameKind.cell) else (n, k)).lookup x = some .cell
  | [], _, h => by simp at h
  | (n, k₀) :: r, x, h => by
    show List.lookup x ((if (k₀ == NameKind.free && sc.kind == .function && sc.names.lookup n == some .cell) = true then (n, NameKind.cell) else (n, k₀)) :: (r.map _)) = some .free ∨ List.lookup x ((if (k₀ == NameKind.free && sc.kind == .function && sc.names.lookup n == some .cell) = true then (n, NameKind.cell) else (n, k₀)) :: (r.map _)) = some .cell
    cases hx : x == n with
    | true =>
      simp only [List.lookup_cons, hx] at h
      cases h
      split
      · right; simp only [List.lookup_cons, hx]
      · left; simp only [List.lookup_cons, hx]
    | false =>
      simp only [List.lookup_cons, hx] at h
      split
      · simp only [List.lookup_cons, hx]; exact free_relS h
      · simp only [List.lookup_cons, hx]; exact free_relS h
def blkB (N : List Str) (sc scope : Scope) (own : List (Str × Nat)) : Bool :=
  decide (scope.kind = .function) && (scope.names.all fun y => decide (scope.names.lookup y.1 = some y.2)) && (own.all fun p => decide (N[p.2]? = some p.1)) &&
  (scope.names.all fun y => !decide (y.2 = .free) || celB sc y.1) && (scope.names.all fun y => !(decide (y.2 = .local) || decide (y.2 = .cell)) || decide (y.1 ∈ own.map (·.1)) || !decide (y.1 ∈ N))
theorem relS_loc {scope sc : Scope} {x : Str} (h : locB scope x = true) : (scope.names.lookup x = some .local ∨ scope.names.lookup x = some .cell) ∧ (relS scope sc).names.lookup x = scope.names.lookup x := by
  unfold locB at h
  cases c : scope.names.lookup x with
  | none => rw [c] at h; cases h
  | some k =>
    rw [c] at h
    cases k <;> first | exact Bool.noConfusion h | exact ⟨by first | exact .inl rfl | exact .inr rfl, lookup_relS_keep (by decide) c⟩
section
variable {pd : PD} {D : Hd Prop} {lev : Nat} {sc : Scope} {N : List Str}
theorem cel_of {sc : Scope} {x : Str} (h : celB sc x = true) : sc.names.lookup x = some .cell ∨ sc.names.lookup x = some .free := by
  unfold celB at h
  cases c : sc.names.lookup x with
  | none => rw [c] at h; cases h
  | some k => rw [c] at h; cases k <;> first | exact Bool.noConfusion h | exact .inl rfl | exact .inr rfl
theorem Good.blkOk {X : Cx} {W : WX} {scope : Scope} {own : List (Str × Nat)} (G : Good pd D lev sc N X W) (hb : blkB N sc scope own = true) : BlkOk X.N X.env.scope scope own := by
  simp only [blkB, Bool.and_eq_true, List.all_eq_true] at hb
  obtain ⟨⟨⟨⟨h1, h2⟩, h3⟩, h4⟩, h5⟩ := hb
  refine ⟨of_decide_eq_true h1, fun y hy => of_decide_eq_true (h2 y hy), fun p hp => by rw [G.nn]; exact of_decide_eq_true (h3 p hp), fun y hy e => ?_, fun y hy e => ?_⟩
  · have := h4 y hy
    rw [e] at this
    exact G.cel _ (by simpa using this)
  · have := h5 y hy
    rw [G.nn]
    have e' : (decide (y.2 = NameKind.local) || decide (y.2 = .cell)) = true := by
      rcases e with z | z <;> rw [z] <;> rfl
    rw [e'] at this
    simp only [Bool.not_true, Bool.false_or, Bool.or_eq_true, Bool.not_eq_true', decide_eq_false_iff_not, decide_eq_true_eq] at this
    exact this
theorem Good.blk {X : Cx} {W : WX} {scope : Scope} {s : Shared} {H : Hp} {C : Addr} {cl : List (Str × Addr)} {fp : List Addr} (G : Good pd D lev sc N X W) :
    Good pd D lev scope N (X.blk s H scope (compEnvC scope cl C X.env) fp) (fun _ _ _ _ => False) where
  pg := G.pg
  room := G.room
  calm := G.calm
  tk := fun u s' ⟨_, _, _, _, _, _, _, _, _, _, _, _, _, _, _, _, w⟩ => w
  nd := G.nd
  nn := G.nn
  vis := fun x h => by
    show Vis (relS scope X.env.scope) x
    unfold visB at h
    cases c : scope.names.lookup x with
    | none => rw [c] at h; cases h
    | some k =>
      rw [c] at h
      cases k <;> first
        | exact Bool.noConfusion h
        | exact .inl (lookup_relS_keep (by decide) c)
        | exact .inr (.inl (lookup_relS_keep (by decide) c))
        | (rcases free_relS (sc := X.env.scope) c with z | z
           · exact .inr (.inr z)
           · exact .inr (.inl z))
  loc := fun x h => by
    obtain ⟨a, b⟩ := relS_loc (sc := X.env.scope) h
    refine ⟨?_, ?_⟩
    · show L2.Loc (relS scope X.env.scope) x
      unfold L2.Loc
      rw [b]
      exact a
    · rcases a with a | a
      · right; show (relS scope X.env.scope).names.lookup x = _; rw [b]; exact a
      · left; show (scope.names.lookup x == some .cell) = true; rw [a]; rfl
  glo := fun x h => by
    show (relS scope X.env.scope).names.lookup x = some .globalImplicit
    unfold gloB at h
    cases c : scope.names.lookup x with
    | none => rw [c] at h; cases h
    | some k => rw [c] at h; cases k <;> first | exact Bool.noConfusion h | exact lookup_relS_keep (by decide) c
  cel := fun x h => by
    show (relS scope X.env.scope).names.lookup x = _ ∨ (relS scope X.env.scope).names.lookup x = _
    rcases cel_of h with c | c
    · exact .inl (lookup_relS_keep (by decide) c)
    · rcases free_relS (sc := X.env.scope) c with z | z
      · exact .inr z
      · exact .inl z
end

/-! ### a turn -/
section
variable {T : Tab} {K : PySem.W.Frag} {ρ : Nat → Addr} {h : LH} {H : Hp}
def inIt (n : Nat) : IT → Prop
  | .seq v _ => inb n v
  | .rng _ _ => True
theorem adr_ext {n : Nat} {ρ ρ' : Nat → Addr} {v : LV} (e : Ext n ρ ρ') (q : inb n v) : adr T K ρ' v = adr T K ρ v := by
  cases v with
  | ref a => exact e a q
  | _ => rfl
theorem itOf_ext {n : Nat} {ρ ρ' : Nat → Addr} {j : IT} (e : Ext n ρ ρ') (q : inIt n j) : itOf T K ρ' j = itOf T K ρ j := by
  cases j with
  | seq v l =>
    cases l with
    | true => show Itl K (adr T K ρ' v) = Itl K (adr T K ρ v); rw [adr_ext e q]
    | false => show Itt K (adr T K ρ' v) = Itt K (adr T K ρ v); rw [adr_ext e q]
  | rng _ _ => rfl
theorem inIt_mono {n n' : Nat} {j : IT} (q : inIt n j) (l : n ≤ n') : inIt n' j := by
  cases j with
  | seq v _ => exact inb_mono q l
  | rng _ _ => trivial
theorem ItOk.inIt {h : LH} {j : IT} (q : ItOk T h j) : inIt h.n j := by
  cases j with
  | seq v l => cases l <;> exact q.1
  | rng _ _ => trivial
theorem sqL_inj {a : Addr} {xs ys : List V} {pins : List (Addr × Obj)} : True := trivial
theorem turn_stop (G : GtOk T K) (r : Rep T K ρ h H) {j : IT} {i : Nat} (e : turn T j i h = .stop) : (itOf T K ρ j).stop i H := by
  cases j with
  | rng lo n =>
    dsimp only [turn] at e
    cases c : Nat.blt i n with
    | true => rw [c] at e; cases e
    | false =>
      show n ≤ i
      rcases Nat.lt_or_ge i n with z | z
      · rw [show Nat.blt i n = true from Nat.ble_eq_true_of_le z] at c; cases c
      · exact z
  | seq v l =>
    dsimp only [turn] at e
    cases l with
    | true =>
      try dsimp only [cond] at e
      cases c : seqL h v with
      | none => rw [c] at e; cases e
      | some xs =>
        rw [c] at e
        try dsimp only at e
        obtain ⟨q1, a, rfl, ha, q2⟩ := seqL_of r c
        cases z : xs[i]? with
        | some x => rw [z] at e; cases e
        | none => exact ⟨_, q2, by rw [List.length_map]; exact List.getElem?_eq_none_iff.mp z⟩
    | false =>
      try dsimp only [cond] at e
      cases c : seqT T h v with
      | none => rw [c] at e; cases e
      | some xs =>
        rw [c] at e
        try dsimp only at e
        obtain ⟨q1, q3, p, ep, q2⟩ := seqT_of G r c
        have ea : adr T K ρ v = p := by cases v <;> first | (cases ep; rfl) | cases ep
        cases z : xs[i]? with
        | some x => rw [z] at e; cases e
        | none =>
          show (Itt K (adr T K ρ v)).stop i H
          rw [ea]
          exact ⟨_, q2, by rw [List.length_map]; exact List.getElem?_eq_none_iff.mp z⟩
theorem turn_next (G : GtOk T K) (r : Rep T K ρ h H) {j : IT} {i : Nat} {v : LV} {h2 : LH} (e : turn T j i h = .next v h2) :
    h2 = h ∧ inb h.n v ∧ (itOf T K ρ j).go i H ∧ ∀ x H', (itOf T K ρ j).yld i H x H' → H' = H ∧ x = vx T K ρ v := by
  cases j with
  | rng lo n =>
    dsimp only [turn] at e
    cases c : Nat.blt i n with
    | false => rw [c] at e; cases e
    | true =>
      rw [c] at e
      cases e
      exact ⟨rfl, trivial, Nat.le_of_ble_eq_true c, fun x H' q => q⟩
  | seq u l =>
    dsimp only [turn] at e
    cases l with
    | true =>
      try dsimp only [cond] at e
      cases c : seqL h u with
      | none => rw [c] at e; cases e
      | some xs =>
        rw [c] at e
        try dsimp only at e
        obtain ⟨q1, a, rfl, ha, q2⟩ := seqL_of r c
        cases z : xs[i]? with
        | none => rw [z] at e; cases e
        | some x =>
          rw [z] at e
          cases e
          have zz : (xs.map (vx T K ρ))[i]? = some (vx T K ρ v) := by rw [List.getElem?_map, z]; rfl
          exact ⟨rfl, q1 _ (List.mem_of_getElem? z), ⟨_, _, q2, zz⟩, fun x H' q => ⟨q.1, by have := q.2 _ q2; rw [zz] at this; exact (Option.some.inj this).symm⟩⟩
    | false =>
      try dsimp only [cond] at e
      cases c : seqT T h u with
      | none => rw [c] at e; cases e
      | some xs =>
        rw [c] at e
        try dsimp only at e
        obtain ⟨q1, q3, p, ep, q2⟩ := seqT_of G r c
        have ea : adr T K ρ u = p := by cases u <;> first | (cases ep; rfl) | cases ep
        cases z : xs[i]? with
        | none => rw [z] at e; cases e
        | some x =>
          rw [z] at e
          cases e
          have zz : (xs.map (vx T K ρ))[i]? = some (vx T K ρ v) := by rw [List.getElem?_map, z]; rfl
          refine ⟨rfl, q1 _ (List.mem_of_getElem? z), ?_, ?_⟩
          · show (Itt K (adr T K ρ u)).go i H
            rw [ea]
            exact ⟨_, _, q2, zz⟩
          · show ∀ x H', (Itt K (adr T K ρ u)).yld i H x H' → _
            rw [ea]
            exact fun x H' q => ⟨q.1, by have := q.2 _ q2; rw [zz] at this; exact (Option.some.inj this).symm⟩
theorem SRel.wipe {n : Nat} {s : St} {σ : L2.St} (r : SRel T K ρ n s σ) : ∀ vs : List Nat, SRel T K ρ n (L3.wipe s vs) (L2.wipe σ vs)
  | [] => r
  | v :: vs => (SRel.wipe r vs).drop v none
end

/-- the tests of a comprehension -/
structure SndTs (pd : PD) (D : Hd Prop) (lev : Nat) (sc : Scope) (N : List Str) (es : List Expr) (ie : IE) : Prop where
  pt : ∀ X W, Good pd D lev sc N X W → PTs X es (tB (tE pd.T X.K D W ie))
section
variable {pd : PD} {D : Hd Prop} {lev : Nat} {sc : Scope} {N : List Str}
theorem PTs.imp {X : Cx} {es : List Expr} {t t' : TT} (h : PTs X es t) (w : ∀ σ H Q, t' σ H Q → t σ H Q) : PTs X es t' := ⟨fun pins s σ H Q I q => h.run pins s σ H Q I (w σ H Q q)⟩
theorem sndts_nil : SndTs pd D lev sc N [] (.con (.bl true)) := ⟨fun X W G => PTs.imp pts_nil fun σ H Q q => by
  obtain ⟨ρ, s, h, k, x, hs, hr, e, hk, hx⟩ := q
  obtain ⟨c, ec, q⟩ := hk (.bl true) h e ρ H (.refl hr) trivial
  cases ec
  exact q⟩
theorem sndts_one {e : Expr} {x : IE} (h : SndT pd D lev sc N e x) : SndTs pd D lev sc N [e] x := ⟨fun X W G => pts_one (h.pt X W G)⟩
theorem lc_of {X : Cx} {W : WX} {own : List Nat} {g : IG} {it : II} {t elt : IE} (G : Good pd D lev sc N X W) (ho : g.own.all (fun i => decide (i ∈ own)) = true) {σ : L2.St} {H : Hp} {Q : VK}
    (q : tE pd.T X.K D W (.comp own g it t elt) σ H Q) : tLc (iI pd.T X.K D W it) (tG pd.T X.K D g) (tB (tE pd.T X.K D (fun _ _ _ _ => False) t)) (tE pd.T X.K D (fun _ _ _ _ => False) elt) own σ H Q := by
  obtain ⟨ρ, s, h, k, x, hs, hr, e, hk, hx⟩ := q
  refine ⟨ρ, s, h, _, x, hs, hr, e, fun j h1 e1 jok ρ1 H1 g1 Da na => ?_, hx⟩
  have bad : x .bad → False := fun y => (hx _ y).elim
  have xok : ∀ {ρ' : Nat → Addr} {h' : LH} {H' : Hp}, XOk pd.T X.K ρ' h' H' (fun _ _ _ => False) (fun _ => x .bad) := fun {_ _ _} o y => (bad y).elim
  have g2 := Rep.put (o := .lst []) (u := .lst []) g1.rep na ⟨fun v hv => absurd hv (by simp), by simp, rfl⟩
  have ji := jok.inIt
  have hs1 := (hs.go g1).go g2
  refine ⟨fun i m H' => ∃ ρ' h', Go pd.T X.K (put1 ρ1 h1.n Da) (h1.put (.lst [])) (upd H1 Da (.lst [])) ρ' h' H' ∧ lcR D j h1.n (L3.wipe s own) (rG D g) (rE D t) (rE D elt) m i h' k (fun _ => x .bad), ⟨_, _, _, .refl g2.rep, e1⟩, ?_⟩
  rintro i m H' ⟨ρ', h', g3, e3⟩
  have g13 := g2.trans g3
  have ej : itOf pd.T X.K ρ' j = itOf pd.T X.K ρ1 j := itOf_ext g13.ext ji
  have ea : ρ' h1.n = Da := (g3.ext h1.n (Nat.lt_succ_self _)).trans put1_self
  have ha : h1.n < h'.n := Nat.lt_of_lt_of_le (Nat.lt_succ_self _) g3.le
  rw [← ej]
  have e4 := e3
  unfold lcR at e4
  rw [G.pg.dt] at e4
  cases c : turn pd.T j i h' with
  | bad => rw [c] at e4; exact (bad e4).elim
  | stop =>
    rw [c] at e4
    refine .inl ⟨turn_stop G.pg.gt g3.rep c, ?_⟩
    have := hk _ _ e4 ρ' H' (g1.trans g13) ha
    rw [show vx pd.T X.K ρ' (.ref h1.n) = V.ref Da from congrArg V.ref ea] at this
    exact this
  | next v h1' =>
    rw [c] at e4
    obtain ⟨rfl, iv, go, yl⟩ := turn_next G.pg.gt g3.rep c
    cases m with
    | zero => exact (bad e4).elim
    | succ m =>
    refine .inr ⟨go, fun H'' => ∃ ρ'' h'', Go pd.T X.K (put1 ρ1 h1.n Da) (h1.put (.lst [])) (upd H1 Da (.lst [])) ρ'' h'' H'' ∧ lcR D j h1.n (L3.wipe s own) (rG D g) (rE D t) (rE D elt) m (i + 1) h'' k (fun _ => x .bad),
      fun H'' z => ⟨m, Nat.lt_succ_self _, z⟩, fun u H'' y => ?_⟩
    obtain ⟨rfl, rfl⟩ := yl u H'' y
    refine ⟨ρ', L3.wipe s own, h1', v, _, fun _ => x .bad, rfl, iv, (hs1.go g3).wipe own, g3.rep, e4, bad, fun s2 e5 σ2 hs2 off => ⟨off.wipe fun i hi => of_decide_eq_true (List.all_eq_true.mp ho i hi), ?_⟩⟩
    refine ⟨ρ', s2, h1', _, fun _ => x .bad, hs2, g3.rep, e5, fun b h3 e6 ρ3 H3 g4 _ => ?_, xok⟩
    have e6 : (match (generalizing := false) b with
          | .bl true => rE D elt s2 h3 (fun y h4 => match h4.get h1.n with
            | some (.lst acc) => bif fits acc.length then lcR D j h1.n (L3.wipe s own) (rG D g) (rE D t) (rE D elt) m (i + 1) (h4.set h1.n (.lst (acc ++ [y]))) k (fun _ => x .bad) else x .bad
            | _ => x .bad) (fun _ => x .bad)
          | .bl false => lcR D j h1.n (L3.wipe s own) (rG D g) (rE D t) (rE D elt) m (i + 1) h3 k (fun _ => x .bad)
          | _ => x .bad) := e6
    cases b with
    | bl b =>
      refine ⟨b, rfl, ?_⟩
      cases b with
      | false =>
        rw [if_neg (by decide)]
        exact ⟨ρ3, h3, g3.trans g4, e6⟩
      | true =>
        rw [if_pos rfl]
        refine ⟨ρ3, s2, h3, _, fun _ => x .bad, hs2.go g4, g4.rep, e6, fun y h4 e7 ρ4 H4 g5 iy => ?_, xok⟩
        have e7 : (match (generalizing := false) h4.get h1.n with
            | some (.lst acc) => bif fits acc.length then lcR D j h1.n (L3.wipe s own) (rG D g) (rE D t) (rE D elt) m (i + 1) (h4.set h1.n (.lst (acc ++ [y]))) k (fun _ => x .bad) else x .bad
            | _ => x .bad) := e7
        have g35 := g3.trans (g4.trans g5)
        have ea4 : ρ4 h1.n = Da := (g35.ext h1.n (Nat.lt_succ_self _)).trans put1_self
        have ha4 : h1.n < h4.n := Nat.lt_of_lt_of_le (Nat.lt_succ_self _) g35.le
        cases gt : h4.get h1.n with
        | none => rw [gt] at e7; exact (bad e7).elim
        | some ob =>
          rw [gt] at e7
          cases ob with
          | lst acc =>
            cases f : fits acc.length with
            | false => dsimp only at e7; rw [f] at e7; exact (bad e7).elim
            | true =>
              dsimp only at e7
              rw [f] at e7
              obtain ⟨q1, q2, _⟩ := rep_lst g5.rep gt
              have z := fits_line f
              have gs := Rep.set (o := .lst (acc ++ [y])) (u := .lst (acc.map (vx pd.T X.K ρ4) ++ [vx pd.T X.K ρ4 y])) g5.rep ha4 ⟨fun w hw => by
                rcases List.mem_append.mp hw with hw | hw
                · exact q2 w hw
                · rw [List.mem_singleton.mp hw]; exact iy, by rw [List.length_append, List.length_singleton]; omega, by rw [List.map_append]; rfl⟩
              rw [ea4] at q1 gs
              refine ⟨_, q1, by rw [List.length_map]; unfold sizeLine; omega, ρ4, _, g35.trans gs, e7⟩
          | _ => exact (bad e7).elim
    | _ => exact (bad e6).elim
theorem snd_lc {elt tg iter : Expr} {ifs : List Expr} {scope : Scope} {own : List (Str × Nat)} {os : List Nat} {pos : Pos} {it : II} {g : IG} {t x : IE} (hi : SndI pd D lev sc N iter it) (hb : blkB N sc scope own = true) (hos : own.map (·.2) = os)
    (hg : SndG pd D lev scope N tg g) (ht : SndTs pd D lev scope N ifs t) (he : Snd pd D lev scope N elt x) (ho : g.own.all (fun i => decide (i ∈ os)) = true) :
    Snd pd D lev sc N (.ListComp elt [⟨tg, iter, ifs, 0⟩] scope pos) (.comp os g it t x) := by
  subst hos
  exact ⟨fun _ _ => rfl, fun X W G => PE.imp (pe_lc (tt := tB (tE pd.T X.K D (fun _ _ _ _ => False) t)) G.calm G.nd (hi.pi X W tg G) (G.blkOk hb) (fun s H C cl fp => hg.pg _ _ G.blk) (fun s H C cl fp => ht.pt _ _ G.blk) (fun s H C cl fp => he.pe _ _ G.blk) (hi.fs _)) fun σ H Q q => lc_of G ho q⟩
end
end L3

/-! L3L: statements. -/
set_option autoImplicit false
set_option linter.all false
set_option maxRecDepth 100000
set_option maxHeartbeats 1000000
namespace L3
open PySem PyProof.Rows L2

structure GoodS (pd : PD) (D : Hd Prop) (lev : Nat) (sc : Scope) (N : List Str) (X : Cx) (W : WX) : Prop extends Good pd D lev sc N X W where
  po : PassesOwn (model X.prog X.w) X.A X.env X.xe
  sce : X.env.scope = sc
structure SndS (pd : PD) (D : Hd Prop) (lev : Nat) (sc : Scope) (N : List Str) (st : Stmt) (is : IS) : Prop where
  ps : ∀ X W, GoodS pd D lev sc N X W → PS X st (tS pd.T X.K D W is)
structure SndSs (pd : PD) (D : Hd Prop) (lev : Nat) (sc : Scope) (N : List Str) (st : List Stmt) (is : ISs) : Prop where
  ps : ∀ X W, GoodS pd D lev sc N X W → PSs X st (tSs pd.T X.K D W is)

section
variable {T : Tab} {K : PySem.W.Frag} {ρ : Nat → Addr} {h : LH} {H : Hp} {D : Ends} {W : WX} {k : SO → Prop}
theorem SOk.bad (q : SOk T K ρ h H D W k) (e : k .bad) : False := q _ e
theorem SOk.xs (q : SOk T K ρ h H D W k) {s : St} {σ : L2.St} (hs : SRel T K ρ h.n s σ) : XOk T K ρ h H (fun c d H' => W c d σ H') (xs s k) := fun o e => by
  cases o with
  | exc c d h' => exact fun ρ' H' g hd => q _ e ρ' H' σ g (hs.go g) hd
  | bad => exact q _ e
end

section
variable {pd : PD} {D : Hd Prop} {lev : Nat} {sc : Scope} {N : List Str}
theorem SRel.weak {T : Tab} {K : PySem.W.Frag} {ρ : Nat → Addr} {n : Nat} {s : St} {σ : L2.St} {vs : List Nat} (r : SRel T K ρ n s (L2.wipe σ vs)) : SRel T K ρ n s σ :=
  ⟨r.len.trans (L2.wipe_length σ vs), fun i v e => ⟨(r.at_ i v e).1, (L2.wipe_some (r.at_ i v e).2).1⟩⟩
/-! ### plain ones -/
theorem snds_pass {pos : Pos} : SndS pd D lev sc N (.Pass pos) .pass := ⟨fun X W G => PS.imp ps_pass fun E σ H q => by
  obtain ⟨ρ, s, h, k, hs, hr, e, hk⟩ := q
  exact hk _ e ρ H σ (.refl hr) hs⟩
theorem snds_doc {x : Str} {j : Nat} {pos pos' : Pos} : SndS pd D lev sc N (.Expr (.Constant (.str x) j pos) pos') .pass := ⟨fun X W G => PS.imp ps_doc fun E σ H q => by
  obtain ⟨ρ, s, h, k, hs, hr, e, hk⟩ := q
  exact hk _ e ρ H σ (.refl hr) hs⟩
theorem snds_brk {pos : Pos} : SndS pd D lev sc N (.Break pos) .brk := ⟨fun X W G => PS.imp ps_break fun E σ H q => by
  obtain ⟨ρ, s, h, k, hs, hr, e, hk⟩ := q
  exact hk _ e ρ H σ (.refl hr) hs⟩
theorem snds_cnt {pos : Pos} : SndS pd D lev sc N (.Continue pos) .cnt := ⟨fun X W G => PS.imp ps_continue fun E σ H q => by
  obtain ⟨ρ, s, h, k, hs, hr, e, hk⟩ := q
  exact hk _ e ρ H σ (.refl hr) hs⟩
theorem snds_bad {st : Stmt} : SndS pd D lev sc N st .bad := ⟨fun X W G => PS.imp ps_never fun E σ H q => by
  obtain ⟨ρ, s, h, k, hs, hr, e, hk⟩ := q
  exact hk.bad e⟩
theorem snds_retN {pos : Pos} : SndS pd D lev sc N (.Return none pos) .retN := ⟨fun X W G => PS.imp ps_retN fun E σ H q => by
  obtain ⟨ρ, s, h, k, hs, hr, e, hk⟩ := q
  exact hk _ e ρ H (.refl hr) trivial⟩
theorem snd_bad {e : Expr} (hn : noStar [e] = true) : Snd pd D lev sc N e .bad := ⟨fun es env => (by cases e <;> first | rfl | cases hn), fun X W G => ⟨fun pins s σ H Q I q => by
  obtain ⟨ρ, s, h, k, x, hs, hr, e, hk, hx⟩ := q
  exact (hx _ e).elim⟩⟩
theorem snds_ret {e : Expr} {x : IE} {pos : Pos} (he : Snd pd D lev sc N e x) : SndS pd D lev sc N (.Return (some e) pos) (.ret x) := ⟨fun X W G => PS.imp (ps_ret (he.pe X W G.toGood)) fun E σ H q => by
  obtain ⟨ρ, s, h, k, hs, hr, e, hk⟩ := q
  exact ⟨ρ, s, h, _, _, hs, hr, e, fun v h1 e1 ρ1 H1 g1 iv => hk _ e1 ρ1 H1 g1 iv, hk.xs hs⟩⟩
def noComp : Expr → Bool
  | .ListComp _ _ _ _ | .SetComp _ _ _ _ | .DictComp _ _ _ _ _ => false
  | _ => true
theorem noComp_ok {e : Expr} (h : noComp e = true) (t : Option Expr) (l : Nat) (env : Env) : swapsWith e t l env = pure false := by
  cases e <;> first | rfl | cases h
theorem snds_expr {e : Expr} {x : IE} {pos : Pos} (he : Snd pd D lev sc N e x) (hc : noComp e = true) : SndS pd D lev sc N (.Expr e pos) (.expr x) := ⟨fun X W G => PS.imp (ps_expr (he.pe X W G.toGood) (noComp_ok hc _ _ _)) fun E σ H q => by
  obtain ⟨ρ, s, h, k, hs, hr, e, hk⟩ := q
  exact ⟨ρ, s, h, _, _, hs, hr, e, fun v h1 e1 ρ1 H1 g1 iv => hk _ e1 ρ1 H1 σ g1 (hs.go g1), hk.xs hs⟩⟩
theorem sndss_nil : SndSs pd D lev sc N [] .nil := ⟨fun X W G => PSs.imp pss_nil fun E σ H q => by
  obtain ⟨ρ, s, h, k, hs, hr, e, hk⟩ := q
  exact hk _ e ρ H σ (.refl hr) hs⟩
theorem sndss_cons {st : Stmt} {sts : List Stmt} {i : IS} {is : ISs} (h1 : SndS pd D lev sc N st i) (h2 : SndSs pd D lev sc N sts is) : SndSs pd D lev sc N (st :: sts) (.cons i is) :=
  ⟨fun X W G => PSs.imp (pss_cons (h1.ps X W G) (h2.ps X W G)) fun E σ H q => by
    obtain ⟨ρ, s, h, k, hs, hr, e, hk⟩ := q
    refine ⟨ρ, s, h, _, hs, hr, e, fun o eo => ?_⟩
    cases o with
    | nxt s1 h1 => exact fun ρ1 H1 σ1 g1 hs1 => ⟨ρ1, s1, h1, k, hs1, g1.rep, eo, hk.back g1⟩
    | _ => exact hk _ eo⟩
theorem snds_ite {t : Expr} {a b : List Stmt} {x : IE} {y z : ISs} {pos : Pos} (ht : SndT pd D lev sc N t x) (ha : SndSs pd D lev sc N a y) (hb : SndSs pd D lev sc N b z) : SndS pd D lev sc N (.If t a b pos) (.ite x y z) :=
  ⟨fun X W G => PS.imp (ps_if (ht.pt X W G.toGood) (ha.ps X W G) (hb.ps X W G)) fun E σ H q => by
    obtain ⟨ρ, s, h, k, hs, hr, e, hk⟩ := q
    refine ⟨ρ, s, h, _, _, hs, hr, e, fun v h1 e1 ρ1 H1 g1 iv => ?_, hk.xs hs⟩
    have e1 : (match (generalizing := false) v with
      | .bl true => rSs D y s h1 k
      | .bl false => rSs D z s h1 k
      | _ => k .bad) := e1
    cases v with
    | bl c =>
      refine ⟨c, rfl, ?_⟩
      cases c with
      | true => rw [if_pos rfl]; exact ⟨ρ1, s, h1, k, hs.go g1, g1.rep, e1, hk.back g1⟩
      | false => rw [if_neg (by decide)]; exact ⟨ρ1, s, h1, k, hs.go g1, g1.rep, e1, hk.back g1⟩
    | _ => exact (hk.bad e1).elim⟩

/-! ### stores -/
theorem asg_of {X : Cx} {W : WX} {g : IG} {x : IE} {te : TE} {tg : TG} (he : ∀ σ H Q, tE pd.T X.K D W x σ H Q → te σ H Q) (hg : ∀ v σ H Q, tG pd.T X.K D g v σ H Q → tg v σ H Q) (hp : ∀ {v : LV} {s : St} {h : LH} {k : St → LH → Prop} {xx : XO → Prop}, rG D g v s h k xx → rG D g v s h (fun s' h' => h' = h ∧ k s' h') (fun o => match o with | .bad => xx .bad | _ => False)) {E : Ends} {σ : L2.St} {H : Hp} (q : tS pd.T X.K D W (.asg g x) E σ H) : tAsg te tg E σ H := by
  obtain ⟨ρ, s, h, k, hs, hr, e, hk⟩ := q
  refine he _ _ _ ⟨ρ, s, h, _, _, hs, hr, e, fun v h1 e1 ρ1 H1 g1 iv => ?_, hk.xs hs⟩
  refine hg _ _ _ _ ⟨ρ1, s, h1, v, _, _, rfl, iv, hs.go g1, g1.rep, hp e1, fun z => hk.bad z, fun s2 e2 σ2 hs2 off => ?_⟩
  exact hk _ e2.2 ρ1 H1 σ2 g1 hs2
mutual
/-- a target that leaves the heap -/
def IG.calm : IG → Bool
  | .name _ => true
  | .drop _ => true
  | .tup gs => gs.calm
  | _ => false
def IGs.calm : IGs → Bool
  | .nil => true
  | .cons g gs => g.calm && gs.calm
end
mutual
theorem calm_ok {D : Hd Prop} : ∀ {g : IG}, g.calm = true → ∀ {v : LV} {s : St} {h : LH} {k k' : St → LH → Prop} {x x' : XO → Prop}, (∀ s', k s' h → k' s' h) → (x .bad → x' .bad) → rG D g v s h k x → rG D g v s h k' x'
  | .name i, _, v, s, h, k, k', x, x', hk, hx, e => hk _ e
  | .drop i, _, v, s, h, k, k', x, x', hk, hx, e => hk _ e
  | .tup gs, c, v, s, h, k, k', x, x', hk, hx, e => by
    have e : (match (generalizing := false) v with
      | .ref a => match h.get a with
        | some (.tup vs) => bif Nat.beq vs.length gs.len then rGs D gs vs s h k x else x .bad
        | _ => x .bad
      | _ => x .bad) := e
    show (match (generalizing := false) v with
      | .ref a => match h.get a with
        | some (.tup vs) => bif Nat.beq vs.length gs.len then rGs D gs vs s h k' x' else x' .bad
        | _ => x' .bad
      | _ => x' .bad)
    cases v with
    | ref a =>
      dsimp only at e ⊢
      cases g : h.get a with
      | none => rw [g] at e; exact hx e
      | some ob =>
        rw [g] at e
        cases ob with
        | tup vs =>
          dsimp only at e ⊢
          cases ln : Nat.beq vs.length gs.len with
          | false => rw [ln] at e; exact hx e
          | true => rw [ln] at e; exact calms_ok c hk hx e
        | _ => exact hx e
    | _ => exact hx e
theorem calms_ok {D : Hd Prop} : ∀ {gs : IGs}, gs.calm = true → ∀ {vs : List LV} {s : St} {h : LH} {k k' : St → LH → Prop} {x x' : XO → Prop}, (∀ s', k s' h → k' s' h) → (x .bad → x' .bad) → rGs D gs vs s h k x → rGs D gs vs s h k' x'
  | .nil, _, vs, s, h, k, k', x, x', hk, hx, e => by
    cases vs with
    | nil => exact hk _ e
    | cons _ _ => exact hx e
  | .cons g gs, c, vs, s, h, k, k', x, x', hk, hx, e => by
    have c : (g.calm && gs.calm) = true := c
    rw [Bool.and_eq_true] at c
    cases vs with
    | nil => exact hx e
    | cons v r => exact calm_ok c.1 (fun s' e' => calms_ok c.2 hk hx e') hx e
end
theorem snds_set {x : Str} {i : Nat} {e : Expr} {y : IE} {g : IG} {pos pos' : Pos} (he : Snd pd D lev sc N e y) (hg : g = .name i ∨ g = .drop i) (hN : N[i]? = some x) (hl : locB sc x = true) (hc : noComp e = true) : SndS pd D lev sc N (.Assign [.Name x pos'] e pos) (.asg g y) :=
  ⟨fun X W G => PS.imp (ps_set G.nd (by rw [G.nn]; exact hN) (G.loc x hl).1 (he.pe X W G.toGood) (noComp_ok hc _ _ _) (G.loc x hl).2) fun E σ H q => by
    refine asg_of (g := g) (te := tE pd.T X.K D W y) (tg := gName i) (fun _ _ _ q => q) (fun v σ H Q q => ?_) (fun {v s h k xx} q => ?_) q
    · obtain ⟨ρ, s, h, lv, k, x, rfl, iv, hs, hr, e, hx, hk⟩ := q
      rcases hg with rfl | rfl
      · exact hk _ e _ (hs.set i iv) set_off
      · exact hk _ e _ (hs.drop i _) set_off
    · rcases hg with rfl | rfl
      · exact calm_ok rfl (fun s' e => ⟨rfl, e⟩) id q
      · exact calm_ok rfl (fun s' e => ⟨rfl, e⟩) id q⟩
/-- (a, b) = e, e no tuple display -/
def noTup : Expr → Bool
  | .Tuple _ _ _ => false
  | _ => true
theorem noTup_ok {ts : List Expr} {k : Nat} {p : Pos} {e : Expr} (h : noTup e = true) (env : Env) : swappedStores [.Tuple ts k p] e env = pure none := by
  cases e <;> first | rfl | cases h
theorem snds_unp {ts : List Expr} {k : Nat} {p pos : Pos} {e : Expr} {y : IE} {gs : IGs} (he : Snd pd D lev sc N e y) (hg : SndGs pd D lev sc N ts gs) (hc : noComp e = true) (ht : noTup e = true) (hm : gs.calm = true) : SndS pd D lev sc N (.Assign [.Tuple ts k p] e pos) (.asg (.tup gs) y) :=
  ⟨fun X W G => PS.imp (ps_asg (he.pe X W G.toGood) ((sndg_tup hg).pg X W G.toGood) (show swapsWithSole [.Tuple ts k p] e pos.line X.env = pure false from noComp_ok hc (some (.Tuple ts k p)) pos.line X.env) (noTup_ok ht _) rfl) fun E σ H q =>
    asg_of (g := .tup gs) (fun _ _ _ q => q) (fun _ _ _ _ q => q) (fun {v s h k xx} q => calm_ok (g := .tup gs) hm (fun s' e => ⟨rfl, e⟩) id q) q⟩
/-- name = [..] -/
theorem sw_lc {elt : Expr} {gs : List Comprehension} {scope : Scope} {pos py : Pos} {y : Str} {l : Nat} {env : Env} (hk : env.scope.kind = .function) :
    swapsWith (.ListComp elt gs scope pos) (some (.Name y py)) l env = pure ((env.scope.names.lookup y == some .local) && (py.line == pos.line) && !(scope.names.any fun (n, k) => n == y && (k == .local || k == .cell))) := by
  have hb : env.blockKind = .function := by unfold Env.blockKind; rw [hk]; rfl
  unfold swapsWith
  show (pure _ : Sem Bool) = _
  rw [hb]
  rfl
def swB (sc scope : Scope) (y : Str) (py pos : Pos) : Bool := (sc.names.lookup y == some .local) && (py.line == pos.line) && !(scope.names.any fun (n, k) => n == y && (k == .local || k == .cell))
theorem snds_setLc {i : Nat} {y : Str} {py spos : Pos} {elt tg iter : Expr} {ifs : List Expr} {scope : Scope} {own : List (Str × Nat)} {os : List Nat} {pos : Pos} {it : II} {g : IG} {t x : IE} (hi : SndI pd D lev sc N iter it) (hb : blkB N sc scope own = true) (hos : own.map (·.2) = os)
    (hg : SndG pd D lev scope N tg g) (ht : SndTs pd D lev scope N ifs t) (he : Snd pd D lev scope N elt x) (ho : g.own.all (fun i => decide (i ∈ os)) = true) (hN : N[i]? = some y) (hl : locB sc y = true) (hk : sc.kind = .function) :
    SndS pd D lev sc N (.Assign [.Name y py] (.ListComp elt [⟨tg, iter, ifs, 0⟩] scope pos) spos) (.asg (.name i) (.comp os g it t x)) := by
  refine ⟨fun X W G => ?_⟩
  have hs := sw_lc (elt := elt) (gs := [⟨tg, iter, ifs, 0⟩]) (scope := scope) (pos := pos) (py := py) (y := y) (l := spos.line) (env := X.env) (by rw [G.sce]; exact hk)
  cases c : ((X.env.scope.names.lookup y == some .local) && (py.line == pos.line) && !(scope.names.any fun (n, k) => n == y && (k == .local || k == .cell))) with
  | false =>
    rw [c] at hs
    exact PS.imp (ps_set G.nd (by rw [G.nn]; exact hN) (G.loc y hl).1 ((snd_lc hi hb hos hg ht he ho).pe X W G.toGood) hs (G.loc y hl).2) fun E σ H q =>
      asg_of (g := .name i) (te := tE pd.T X.K D W (.comp os g it t x)) (tg := gName i) (fun _ _ _ q => q) (fun v σ H Q q => by
        obtain ⟨ρ, s, h, lv, k, x, rfl, iv, hs, hr, e, hx, hk⟩ := q
        exact hk _ e _ (hs.set i iv) set_off) (fun {v s h k xx} q => calm_ok rfl (fun s' e => ⟨rfl, e⟩) id q) q
  | true =>
    rw [c] at hs
    simp only [Bool.and_eq_true, beq_iff_eq] at c
    subst hos
    exact PS.imp (ps_setLc (tt := tB (tE pd.T X.K D (fun _ _ _ _ => False) t)) G.calm G.nd (by rw [G.nn]; exact hN) c.1.1 hs (hi.pi X W tg G.toGood) (G.toGood.blkOk hb) (fun s H C cl fp => hg.pg _ _ G.toGood.blk) (fun s H C cl fp => ht.pt _ _ G.toGood.blk) (fun s H C cl fp => he.pe _ _ G.toGood.blk) (hi.fs _)) fun E σ H q =>
      asg_of (g := .name i) (tg := gName i) (fun _ _ _ q => lc_of G.toGood ho q) (fun v σ H Q q => by
        obtain ⟨ρ, s, h, lv, k, x, rfl, iv, hs, hr, e, hx, hk⟩ := q
        exact hk _ e _ (hs.set i iv) set_off) (fun {v s h k xx} q => calm_ok rfl (fun s' e => ⟨rfl, e⟩) id q) q

/-! ### o.f = e -/
theorem putF_map {T : Tab} {K : PySem.W.Frag} {ρ : Nat → Addr} (inj : ∀ f g, T.fn f = T.fn g → f = g) (f : Nat) (v : LV) : ∀ fs : List (Nat × LV), L2.putF (T.fn f) (vx T K ρ v) (fs.map fun p => (T.fn p.1, vx T K ρ p.2)) = (L3.putF f v fs).map fun p => (T.fn p.1, vx T K ρ p.2)
  | [] => rfl
  | (g, w) :: r => by
    have ih := putF_map (K := K) (ρ := ρ) inj f v r
    unfold L3.putF
    by_cases e : g = f
    · subst e
      rw [show Nat.beq g g = true from Nat.beq_refl g]
      simp [L2.putF]
    · rw [show Nat.beq g f = false from by
        cases z : Nat.beq g f with
        | false => rfl
        | true => exact absurd (Nat.eq_of_beq_eq_true z) e]
      simp only [List.map_cons, L2.putF, if_neg (fun z => e (inj _ _ z)), cond]
      rw [ih]
theorem putF_mem {f : Nat} {v : LV} : ∀ {fs : List (Nat × LV)} {p : Nat × LV}, p ∈ L3.putF f v fs → p.2 = v ∨ p ∈ fs
  | [], p, h => .inl (by rw [List.mem_singleton.mp h])
  | (g, w) :: r, p, h => by
    unfold L3.putF at h
    cases c : Nat.beq g f with
    | true =>
      rw [c] at h
      rcases List.mem_cons.mp h with z | z
      · exact .inl (by rw [z])
      · exact .inr (List.mem_cons_of_mem _ z)
    | false =>
      rw [c] at h
      rcases List.mem_cons.mp h with z | z
      · exact .inr (by rw [z]; exact List.mem_cons_self)
      · rcases putF_mem z with y | y
        · exact .inl y
        · exact .inr (List.mem_cons_of_mem _ y)
theorem snds_fld {o e : Expr} {f : Nat} {n : Str} {x y : IE} {pos pos' : Pos} (ho : Snd pd D lev sc N o x) (he : Snd pd D lev sc N e y) (hn : pd.T.fn f = n) (hf : pd.okf f = true) (hc : noComp e = true) : SndS pd D lev sc N (.Assign [.Attribute o n pos'] e pos) (.asg (.fld x f) y) :=
  ⟨fun X W G => PS.imp (L2.ps_fld (ho.pe X W G.toGood) (he.pe X W G.toGood) (noComp_ok hc _ _ _)) fun E σ H q => by
    obtain ⟨ρ, s, h, k, hs, hr, e, hk⟩ := q
    refine ⟨ρ, s, h, _, _, hs, hr, e, fun v h1 e1 ρ1 H1 g1 iv => ?_, hk.xs hs⟩
    refine ⟨ρ1, s, h1, _, _, hs.go g1, g1.rep, e1, fun u h2 e2 ρ2 H2 g2 iu => ?_, (hk.xs hs).back g1⟩
    have e2 : (match (generalizing := false) u with
      | .ref a => match h2.get a with
        | some (.ins c fs) => bif Nat.blt fs.length 900 then k (.nxt s (h2.set a (.ins c (L3.putF f v fs)))) else k .bad
        | _ => k .bad
      | _ => k .bad) := e2
    cases u with
    | ref a =>
      dsimp only at e2
      cases g : h2.get a with
      | none => rw [g] at e2; exact (hk.bad e2).elim
      | some ob =>
        rw [g] at e2
        cases ob with
        | ins c fs =>
          dsimp only at e2
          cases l : Nat.blt fs.length 900 with
          | false => rw [l] at e2; exact (hk.bad e2).elim
          | true =>
            rw [l] at e2
            have l' : fs.length < 900 := Nat.le_of_ble_eq_true l
            obtain ⟨⟨c1, q1⟩, dx, q2⟩ := rep_ins g2.rep g
            refine ⟨_, _, dx, _, rfl, q2, G.pg.cls c c1, by rw [← hn]; exact G.pg.noat c f c1 hf, by rw [List.length_map]; omega, ?_⟩
            have iv2 := inb_mono iv g2.le
            have g3 := Rep.set (o := .ins c (L3.putF f v fs)) (u := .ins (He.ga X.K (pd.T.gn (pd.T.cg c))) dx ((L3.putF f v fs).map fun p => (pd.T.fn p.1, vx pd.T X.K ρ2 p.2))) g2.rep (get_lt g) ⟨⟨c1, fun p hp => by
              rcases putF_mem hp with z | z
              · rw [z]; exact iv2
              · exact q1 p z⟩, dx, rfl⟩
            rw [← hn, ← vx_ext g2.ext iv, putF_map G.pg.fnj]
            exact hk _ e2 ρ2 _ σ (g1.trans (g2.trans g3)) (((hs.go g1).go g2).go g3)
        | _ => exact (hk.bad e2).elim
    | _ => exact (hk.bad e2).elim⟩

/-! ### o[i] = e -/
def rSetA : TSet := fun o i v H Q => rSetL o i v H Q ∨ rSetD o i v H Q
theorem set_all {X : Cx} (hu : X.A.units + 1 < cLine) : PSet X rSetA := by
  intro pins s σ H o i v ov iv u Q I ro ri rv h
  rcases h with h | h
  · exact set_list pins s σ H o i v ov iv u Q I ro ri rv h
  · exact set_dict hu pins s σ H o i v ov iv u Q I ro ri rv h
def noSlice' : Expr → Bool
  | .Slice _ _ _ _ => false
  | _ => true
theorem ixN_eq (n : Nat) (i : Int) : L2.ixN n i = L3.ixN n i := by
  unfold L2.ixN L3.ixN
  by_cases h1 : (0 : Int) ≤ i
  · rw [if_pos h1, decide_eq_true h1]
    by_cases h2 : i < (n : Int)
    · rw [if_pos h2, decide_eq_true h2]; rfl
    · rw [if_neg h2, decide_eq_false h2]; rfl
  · rw [if_neg h1, decide_eq_false h1]
    by_cases h2 : -(n : Int) ≤ i
    · rw [if_pos h2, decide_eq_true h2]; rfl
    · rw [if_neg h2, decide_eq_false h2]; rfl
theorem snds_sub {o i e : Expr} {x y z : IE} {pos pos' : Pos} (ho : Snd pd D lev sc N o x) (hi : Snd pd D lev sc N i y) (he : Snd pd D lev sc N e z) (hc : noComp e = true) (hs : noSlice' i = true) : SndS pd D lev sc N (.Assign [.Subscript o i pos'] e pos) (.asg (.sub x y) z) :=
  ⟨fun X W G => PS.imp (ps_asg (he.pe X W G.toGood) (pg_sub (ho.pe X W G.toGood) (hi.pe X W G.toGood) (set_all G.hu) (by intro v; cases i <;> first | rfl | cases hs))
      (show swapsWithSole [.Subscript o i pos'] e pos.line X.env = pure false from noComp_ok hc (some (.Subscript o i pos')) pos.line X.env) rfl rfl) fun E σ H q => by
    obtain ⟨ρ, s, h, k, hs', hr, e1, hk⟩ := q
    refine ⟨ρ, s, h, _, _, hs', hr, e1, fun v h1 e1 ρ1 H1 g1 iv => ?_, hk.xs hs'⟩
    refine ⟨ρ1, s, h1, _, _, hs'.go g1, g1.rep, e1, fun u h2 e2 ρ2 H2 g2 iu => ?_, (hk.xs hs').back g1⟩
    refine ⟨ρ2, s, h2, _, _, (hs'.go g1).go g2, g2.rep, e2, fun w h3 e3 ρ3 H3 g3 iw => ?_, ((hk.xs hs').back g1).back g2⟩
    have g123 := g1.trans (g2.trans g3)
    have hk3 := hk.back g123
    have hs3 := hs'.go g123
    rw [← vx_ext g3.ext iu, ← vx_ext g2.ext iv, ← vx_ext g3.ext (inb_mono iv g2.le)]
    have iv3 := inb_mono (inb_mono iv g2.le) g3.le
    have e3 : (match (generalizing := false) u with
      | .ref a => match h3.get a with
        | some (.lst xs) => match (generalizing := false) w with
          | .int j => match L3.ixN xs.length j with
            | some n => k (.nxt s (h3.set a (.lst (xs.set n v))))
            | none => k .bad
          | _ => k .bad
        | some (.dic kvs) => bif keyOk w && fits kvs.length then k (.nxt s (h3.set a (.dic (L3.putD w v kvs)))) else k .bad
        | _ => k .bad
      | _ => k .bad) := e3
    cases u with
    | ref a =>
      dsimp only at e3
      cases g : h3.get a with
      | none => rw [g] at e3; exact (hk.bad e3).elim
      | some ob =>
        rw [g] at e3
        cases ob with
        | lst xs =>
          dsimp only at e3
          cases w with
          | int j =>
            dsimp only at e3
            cases c : L3.ixN xs.length j with
            | none => rw [c] at e3; exact (hk.bad e3).elim
            | some n =>
              rw [c] at e3
              obtain ⟨q1, q2, q3⟩ := rep_lst g3.rep g
              have gs := Rep.set (o := .lst (xs.set n v)) (u := .lst ((xs.map (vx pd.T X.K ρ3)).set n (vx pd.T X.K ρ3 v))) g3.rep (get_lt g) ⟨fun z hz => ?_, by rw [List.length_set]; exact q3, by rw [List.map_set]⟩
              · exact .inl ⟨_, _, j, n, rfl, rfl, q1, by rw [List.length_map, ixN_eq]; exact c, hk3 _ e3 ρ3 _ σ gs (hs3.go gs)⟩
              · rcases List.mem_or_eq_of_mem_set hz with z1 | z1
                · exact q2 z z1
                · rw [z1]; exact iv3
          | _ => exact (hk.bad e3).elim
        | dic kvs =>
          dsimp only at e3
          cases c : (keyOk w && fits kvs.length) with
          | false => rw [c] at e3; exact (hk.bad e3).elim
          | true =>
            rw [c] at e3
            rw [Bool.and_eq_true] at c
            obtain ⟨q1, q2⟩ := rep_dic g3.rep g
            obtain ⟨nd, q3⟩ := rep_nd g3.rep g
            have z1 := fits_line c.2
            obtain ⟨p1, p2, p3, _⟩ := putD_keys (v := v) c.1 (fun p hp => (q2 p hp).1) nd
            have gs := Rep.set (o := .dic (L3.putD w v kvs)) (u := .dK ((L3.putD w v kvs).map fun p => (kx p.1, vx pd.T X.K ρ3 p.2))) g3.rep (get_lt g) ⟨⟨fun p hp => ⟨p1 p hp, putD_inb iv3 (fun p hp => (q2 p hp).2) p hp⟩, p2, by omega⟩, rfl⟩
            rw [← putK_map c.1 (fun p hp => (q2 p hp).1) nd] at gs
            refine .inr ⟨_, _, rfl, .inl ⟨_, kx w, q1, (kx_kV c.1).symm, by rw [List.length_map]; unfold sizeLine; omega, rfl⟩, hk3 _ e3 ρ3 _ σ gs (hs3.go gs)⟩
        | _ => exact (hk.bad e3).elim
    | _ => exact (hk.bad e3).elim⟩

/-! ### name += e -/
theorem snds_aug {x : Str} {i : Nat} {e : Expr} {y : IE} {pos pos' : Pos} (he : Snd pd D lev sc N e y) (hN : N[i]? = some x) (hl : locB sc x = true) : SndS pd D lev sc N (.AugAssign (.Name x pos') .Add e pos) (.aug i y) :=
  ⟨fun X W G => PS.imp (ps_aug G.nd (by rw [G.nn]; exact hN) (G.loc x hl).1 (he.pe X W G.toGood) ip_add (G.loc x hl).2) fun E σ H q => by
    obtain ⟨ρ, s, h, k, hs, hr, e, hk⟩ := q
    have e : (match (generalizing := false) s[i]? with
      | some (some v) => rE D y s h (fun w h1 => match v, w with
        | .int a, .int b => k (.nxt (s.set i (some (.int (a + b)))) h1)
        | _, _ => k .bad) (xs s k)
      | _ => k .bad) := e
    cases g : s[i]? with
    | none => rw [g] at e; exact (hk.bad e).elim
    | some ov =>
      rw [g] at e
      cases ov with
      | none => exact (hk.bad e).elim
      | some v =>
        refine ⟨_, (hs.at_ i v g).2, ρ, s, h, _, _, hs, hr, e, fun w h1 e1 ρ1 H1 g1 iw => ?_, hk.xs hs⟩
        have e1 : (match (generalizing := false) v, w with
          | .int a, .int b => k (.nxt (s.set i (some (.int (a + b)))) h1)
          | _, _ => k .bad) := e1
        cases v with
        | int a =>
          cases w with
          | int b => exact ⟨a, b, rfl, rfl, hk _ e1 ρ1 H1 _ g1 ((hs.go g1).set i (v := .int (a + b)) trivial)⟩
          | _ => exact (hk.bad e1).elim
        | _ => exact (hk.bad e1).elim⟩
end

/-! ### loops -/
theorem Go.gc {T : Tab} {K : PySem.W.Frag} {ρ ρ1 ρ2 : Nat → Addr} {h h1 h2 : LH} {H H1 : Hp} (g : Go T K ρ h H ρ1 h1 H1) (l : h.n ≤ h2.n) (e : Ext h.n ρ1 ρ2) (r : Rep T K ρ2 h2 H1) (n : ∀ a, a < h2.n → ∃ c, c < h1.n ∧ ρ2 a = ρ1 c) : Go T K ρ h H ρ2 h2 H1 :=
  ⟨g.ext.trans e (Nat.le_refl _), l, r, ⟨g.fr.keep, fun a ha => by
    obtain ⟨c, hc, z⟩ := n a ha
    rw [z]
    exact g.fr.new c hc⟩⟩
section
variable {pd : PD} {D : Hd Prop} {lev : Nat} {sc : Scope} {N : List Str}
theorem snds_whl {t : Expr} {b : List Stmt} {x : IE} {y : ISs} {dead : List Nat} {m0 : Nat} {pos : Pos} (ht : SndT pd D lev sc N t x) (hb : SndSs pd D lev sc N b y) : SndS pd D lev sc N (.While t b [] pos) (.whl dead m0 x y) :=
  ⟨fun X W G => PS.imp (ps_while G.po (ht.pt X W G.toGood) (hb.ps X W G)) fun E σ0 H0 q => by
    obtain ⟨ρ, s, h, k, hs, hr, e, hk⟩ := q
    have e : whlR D dead h.n (rE D x) (rSs D y) m0 s h k := e
    refine ⟨fun m σ H => ∃ ρ' s' h', Go pd.T X.K ρ h H0 ρ' h' H ∧ SRel pd.T X.K ρ' h'.n s' σ ∧ whlR D dead h.n (rE D x) (rSs D y) m s' h' k, ⟨m0, ρ, s, h, .refl hr, hs, e⟩, ?_⟩
    rintro m σ H ⟨ρ1, s1, h1, g1, hs1, e1⟩
    have e2 := e1
    unfold whlR at e2
    have hk1 := hk.back g1
    refine ⟨ρ1, s1, h1, _, _, hs1, g1.rep, e2, fun v h2 e3 ρ2 H2 g2 _ => ?_, fun o eo => ?_⟩
    · cases v with
      | bl c =>
        refine ⟨c, rfl, ?_⟩
        cases c with
        | false =>
          rw [if_neg (by decide)]
          exact hk1 _ e3 ρ2 H2 σ g2 (hs1.go g2)
        | true =>
          rw [if_pos rfl]
          cases m with
          | zero => exact (hk.bad e3).elim
          | succ m =>
          refine ⟨fun σ' H' => ∃ ρ' s' h', Go pd.T X.K ρ h H0 ρ' h' H' ∧ SRel pd.T X.K ρ' h'.n s' σ' ∧ whlR D dead h.n (rE D x) (rSs D y) m s' h' k, fun σ' H' z => ⟨m, Nat.lt_succ_self _, z⟩, ?_⟩
          refine ⟨ρ2, s1, h2, _, hs1.go g2, g2.rep, e3, fun o eo => ?_⟩
          have again : ∀ {s3 : St} {h3 : LH} {ρ3 : Nat → Addr} {H3 : Hp} {σ3 : L2.St}, D.gc h.n (fun σ4 h4 => whlR D dead h.n (rE D x) (rSs D y) m σ4 h4 k) (L3.wipe s3 dead) h3 → Go pd.T X.K ρ2 h2 H2 ρ3 h3 H3 → SRel pd.T X.K ρ3 h3.n s3 σ3 →
              ∃ ρ' s' h', Go pd.T X.K ρ h H0 ρ' h' H3 ∧ SRel pd.T X.K ρ' h'.n s' σ3 ∧ whlR D dead h.n (rE D x) (rSs D y) m s' h' k := fun {s3 h3 ρ3 H3 σ3} z g3 hs3 => by
            have g := g1.trans (g2.trans g3)
            obtain ⟨s4, h4, e4, l4, f4⟩ := G.pg.gc _ _ _ _ z g.rep.len g.le
            obtain ⟨ρ4, x4, r4, t4, n4⟩ := f4 pd.T X.K ρ3 H3 σ3 g.rep ((hs3.wipe dead).weak)
            exact ⟨ρ4, s4, h4, g.gc l4 x4 r4 n4, t4, e4⟩
          cases o with
          | nxt s3 h3 => exact fun ρ3 H3 σ3 g3 hs3 => again eo g3 hs3
          | cnt s3 h3 => exact fun ρ3 H3 σ3 g3 hs3 => again eo g3 hs3
          | brk s3 h3 => exact fun ρ3 H3 σ3 g3 hs3 => hk1 _ eo ρ3 H3 σ3 (g2.trans g3) hs3
          | ret v h3 => exact (hk1.back g2) _ eo
          | exc c d s3 h3 => exact (hk1.back g2) _ eo
          | bad => exact hk.bad eo
      | _ => exact (hk.bad e3).elim
    · cases o with
      | exc c d h2 => exact fun ρ2 H2 g2 hd => hk1 _ eo ρ2 H2 σ g2 (hs1.go g2) hd
      | bad => exact hk.bad eo⟩
theorem snds_for {tg iter : Expr} {b : List Stmt} {g : IG} {it : II} {y : ISs} {dead : List Nat} {pos : Pos} (hi : SndI pd D lev sc N iter it) (hg : SndG pd D lev sc N tg g) (hb : SndSs pd D lev sc N b y) : SndS pd D lev sc N (.For tg iter b [] pos) (.for_ dead g it y) :=
  ⟨fun X W G => PS.imp (ps_for G.po G.calm (hi.pi X W tg G.toGood) (hg.pg X W G.toGood) (hb.ps X W G) (hi.fs _)) fun E σ0 H00 q => by
    obtain ⟨ρ0, s, h0, k, hs0, hr0, e, hk0⟩ := q
    refine ⟨ρ0, s, h0, _, _, hs0, hr0, e, fun j h e jok ρ H0 g0 => ?_, hk0.xs hs0⟩
    have hk := hk0.back g0
    have hs := hs0.go g0
    have ji := jok.inIt
    have bad : k .bad → False := fun z => hk.bad z
    refine ⟨fun i m σ H => ∃ ρ' s' h', Go pd.T X.K ρ h H0 ρ' h' H ∧ SRel pd.T X.K ρ' h'.n s' σ ∧ forR D dead j h.n (rG D g) (rSs D y) m i s' h' k, ⟨_, ρ, s, h, .refl g0.rep, hs, e⟩, ?_⟩
    rintro i m σ H ⟨ρ1, s1, h1, g1, hs1, e1⟩
    have e2 := e1
    unfold forR at e2
    rw [G.pg.dt] at e2
    have hk1 := hk.back g1
    rw [← itOf_ext g1.ext ji]
    cases c : turn pd.T j i h1 with
    | bad => rw [c] at e2; exact (bad e2).elim
    | stop =>
      rw [c] at e2
      exact .inl ⟨turn_stop G.pg.gt g1.rep c, hk1 _ e2 ρ1 H σ (.refl g1.rep) hs1⟩
    | next v h1' =>
      rw [c] at e2
      obtain ⟨rfl, iv, go, yl⟩ := turn_next G.pg.gt g1.rep c
      cases m with
      | zero => exact (bad e2).elim
      | succ m =>
      refine .inr ⟨go, fun σ' H' => ∃ ρ' s' h', Go pd.T X.K ρ h H0 ρ' h' H' ∧ SRel pd.T X.K ρ' h'.n s' σ' ∧ forR D dead j h.n (rG D g) (rSs D y) m (i + 1) s' h' k, fun σ' H' z => ⟨m, Nat.lt_succ_self _, z⟩, fun u H' y' => ?_⟩
      obtain ⟨rfl, rfl⟩ := yl u H' y'
      refine ⟨ρ1, s1, h1', v, _, _, rfl, iv, hs1, g1.rep, e2, bad, fun s2 e3 σ2 hs2 off => ?_⟩
      refine ⟨ρ1, s2, h1', _, hs2, g1.rep, e3, fun o eo => ?_⟩
      have again : ∀ {s3 : St} {h3 : LH} {ρ3 : Nat → Addr} {H3 : Hp} {σ3 : L2.St}, D.gc h.n (fun σ4 h4 => forR D dead j h.n (rG D g) (rSs D y) m (i + 1) σ4 h4 k) (L3.wipe s3 dead) h3 → Go pd.T X.K ρ1 h1' H' ρ3 h3 H3 → SRel pd.T X.K ρ3 h3.n s3 σ3 →
          ∃ ρ' s' h', Go pd.T X.K ρ h H0 ρ' h' H3 ∧ SRel pd.T X.K ρ' h'.n s' σ3 ∧ forR D dead j h.n (rG D g) (rSs D y) m (i + 1) s' h' k := fun {s3 h3 ρ3 H3 σ3} z g3 hs3 => by
        have g := g1.trans g3
        obtain ⟨s4, h4, e4, l4, f4⟩ := G.pg.gc _ _ _ _ z g.rep.len g.le
        obtain ⟨ρ4, x4, r4, t4, n4⟩ := f4 pd.T X.K ρ3 H3 σ3 g.rep ((hs3.wipe dead).weak)
        exact ⟨ρ4, s4, h4, g.gc l4 x4 r4 n4, t4, e4⟩
      cases o with
      | nxt s3 h3 => exact fun ρ3 H3 σ3 g3 hs3 => again eo g3 hs3
      | cnt s3 h3 => exact fun ρ3 H3 σ3 g3 hs3 => again eo g3 hs3
      | brk s3 h3 => exact fun ρ3 H3 σ3 g3 hs3 => hk1 _ eo ρ3 H3 σ3 g3 hs3
      | ret v h3 => exact hk1 _ eo
      | exc c d s3 h3 => exact hk1 _ eo
      | bad => exact hk.bad eo⟩
end
end L3

/-! L3M: functions call one another; every one keeps its promise. -/
set_option autoImplicit false
set_option linter.all false
set_option maxRecDepth 100000
set_option maxHeartbeats 1000000
namespace L3
open PySem PyProof.Rows L2

abbrev Spc (R : Type) := List LV → LH → (LV → LH → R) → (XO → R) → R
/-- the functions Fs, n deep; sp: those that are told by hand -/
def callN {R : Type} (T : Tab) (Fs : List Fn) (sp : Nat → Nat → Option (Spc R)) (gc : Nat → (St → LH → R) → St → LH → R) : Nat → Hd R
  | 0 => ⟨T, fun _ _ _ _ x => x .bad, gc⟩
  | n + 1 => ⟨T, fun f vs h k x => match sp n f with
    | some p => p vs h k x
    | none => match Fs[f]? with
      | some fn => bodyR (callN T Fs sp gc n) fn vs h k x
      | none => x .bad, gc⟩
theorem callN_T {R : Type} {T : Tab} {Fs : List Fn} {sp : Nat → Nat → Option (Spc R)} {gc : Nat → (St → LH → R) → St → LH → R} : ∀ n, (callN T Fs sp gc n).T = T
  | 0 => rfl
  | _ + 1 => rfl
theorem callN_gc {R : Type} {T : Tab} {Fs : List Fn} {sp : Nat → Nat → Option (Spc R)} {gc : Nat → (St → LH → R) → St → LH → R} : ∀ n, (callN T Fs sp gc n).gc = gc
  | 0 => rfl
  | _ + 1 => rfl
theorem callN_call {R : Type} {T : Tab} {Fs : List Fn} {sp : Nat → Nat → Option (Spc R)} {gc : Nat → (St → LH → R) → St → LH → R} {n f : Nat} {vs : List LV} {h : LH} {k : LV → LH → R} {x : XO → R} :
    (callN T Fs sp gc (n + 1)).call f vs h k x = (match sp n f with
      | some p => p vs h k x
      | none => match Fs[f]? with
        | some fn => bodyR (callN T Fs sp gc n) fn vs h k x
        | none => x .bad) := rfl
/-- one told by hand does what its body does -/
def SpOk (T : Tab) (Fs : List Fn) (sp : Nat → Nat → Option (Spc Prop)) (gc : Nat → (St → LH → Prop) → St → LH → Prop) : Prop :=
  ∀ (f : Nat) (p : Spc Prop) (fn : Fn) (n : Nat) (vs : List LV) (h : LH) (k : LV → LH → Prop) (x : XO → Prop), sp n f = some p → Fs[f]? = some fn → p vs h k x → ¬ x .bad → vs.length = fn.np ∧
    ∀ (K : PySem.W.Frag) (ρ : Nat → Addr) (H : Hp), Rep T K ρ h H → (∀ v ∈ vs, inb h.n v) → ∃ vs2 ρ2 h2 k2 x2, vs2.map (vx T K ρ2) = vs.map (vx T K ρ) ∧ (∀ v ∈ vs2, inb h2.n v) ∧ Rep T K ρ2 h2 H ∧ bodyR (callN T Fs sp gc n) fn vs2 h2 k2 x2 ∧
      (∀ Q, KOk T K ρ h H Q k → KOk T K ρ2 h2 H Q k2) ∧ ∀ E, XOk T K ρ h H E x → XOk T K ρ2 h2 H E x2
/-- a function's def and its translation -/
structure FnB (pd : PD) (K : PySem.W.Frag) (F : FnI) (fn : Fn) : Prop where
  np : fn.np = F.ps.length
  ex : ∃ (fd : FuncData) (x qual : Str) (params : Arguments) (body : List Stmt) (scope : Scope) (N : List Str), FunD K x qual params body scope (F.dfl.map (vx pd.T K fun _ => 0)) [] (He.fAd K F.at_) fd ∧ FnScope N F.ps scope ∧ fn.nn = N.length ∧
    (∀ D lev, SndSs pd D lev scope N body fn.body) ∧ ∀ j, j ≤ F.dfl.length → ∃ ds, Vals ((F.dfl.drop j).map (vx pd.T K fun _ => 0)) ds ∧ Binds K fd F.ps ds

section
variable {pd : PD} {Fs : List Fn} {sp : Nat → Nat → Option (Spc Prop)} {gc : Nat → (St → LH → Prop) → St → LH → Prop} {P : Program} {w : World} {K : PySem.W.Frag} {mg : Str → Option Value} {base : Heap}
theorem srel_start {T : Tab} {ρ : Nat → Addr} {n : Nat} {fn : Fn} {N : List Str} {lvs : List LV} (hn : fn.nn = N.length) (iv : ∀ v ∈ lvs, inb n v) : SRel T K ρ n (L3.start fn lvs) (L2.start N (lvs.map (vx T K ρ))) := by
  refine ⟨?_, fun i v e => ?_⟩
  · show (lvs.map some ++ List.replicate _ none).length = ((lvs.map (vx T K ρ)).map some ++ List.replicate _ none).length
    simp [hn]
  · have e : (lvs.map some ++ List.replicate (fn.nn - lvs.length) none)[i]? = some (some v) := e
    show inb n v ∧ ((lvs.map (vx T K ρ)).map some ++ List.replicate _ none)[i]? = some (some (vx T K ρ v))
    by_cases hi : i < lvs.length
    · rw [List.getElem?_append_left (by simpa using hi), List.getElem?_map] at e
      rw [List.getElem?_append_left (by simpa using hi), List.getElem?_map, List.getElem?_map]
      cases c : lvs[i]? with
      | none => rw [c] at e; cases e
      | some u =>
        rw [c] at e
        cases e
        exact ⟨iv _ (List.mem_of_getElem? c), rfl⟩
    · rw [List.getElem?_append_right (by simpa using hi), List.getElem?_replicate] at e
      split at e
      · cases e
      · cases e
theorem good_of {n : Nat} {N ps : List Str} {qual : Str} {scope : Scope} {f : Addr} {cdv : Value} {A : Around} {outer : List Env} {s : Shared} {H : Hp} {E : XK} {D : Hd Prop} {lev : Nat} (pg : Pg pd D P w K mg base lev) (S : FnScope N ps scope) (hr : Room (lev + 1) (A.deeper (envOfC qual scope s.heap.objs.size f cdv))) :
    GoodS pd D lev scope N (cxOf (L2.CX P w) P w K mg base N qual scope f cdv A outer s H E) (fun c d _ H' => E c d H') where
  pg := pg
  room := hr
  calm := rfl
  tk := takes_of rfl rfl rfl rfl
  nd := S.nd
  nn := rfl
  vis := fun x h => by
    show Vis scope x
    unfold visB at h
    cases c : scope.names.lookup x with
    | none => rw [c] at h; cases h
    | some k => rw [c] at h; cases k <;> first | exact Bool.noConfusion h | exact .inl c | exact .inr (.inl c) | exact .inr (.inr c)
  loc := fun x h => by
    refine ⟨?_, .inl rfl⟩
    show L2.Loc scope x
    unfold locB at h
    cases c : scope.names.lookup x with
    | none => rw [c] at h; cases h
    | some k => rw [c] at h; cases k <;> first | exact Bool.noConfusion h | exact .inl c | exact .inr c
  glo := fun x h => by
    show scope.names.lookup x = some .globalImplicit
    unfold gloB at h
    cases c : scope.names.lookup x with
    | none => rw [c] at h; cases h
    | some k => rw [c] at h; cases k <;> first | exact Bool.noConfusion h | rfl
  cel := fun x h => cel_of h
  po := passes_of rfl
  sce := rfl
theorem body_of {D : Hd Prop} {lev : Nat} {F : FnI} {fn : Fn} {body : List Stmt} {scope : Scope} {N : List Str} {qual : Str} {f : Addr} {cdv : Value} {A : Around} {outer : List Env} {s : Shared} {H : Hp} {Q : VK} {E : XK} (pg : Pg pd D P w K mg base lev) (S : FnScope N F.ps scope) (hn : fn.nn = N.length)
    (hb : SndSs pd D lev scope N body fn.body) (hr : Room (lev + 1) (A.deeper (envOfC qual scope s.heap.objs.size f cdv))) {ρ : Nat → Addr} {h : LH} {lvs : List LV} {k : LV → LH → Prop} {x : XO → Prop} (iv : ∀ v ∈ lvs, inb h.n v) (r : Rep pd.T K ρ h H) (e : bodyR D fn lvs h k x) (hk : KOk pd.T K ρ h H Q k) (hx : XOk pd.T K ρ h H E x) :
    ∃ t, PSs (cxOf (L2.CX P w) P w K mg base N qual scope f cdv A outer s H E) body t ∧ t { nx := fun _ H' => Q .non H', rt := Q } (L2.start N (lvs.map (vx pd.T K ρ))) H := by
  have G := good_of (qual := qual) (f := f) (cdv := cdv) (A := A) (outer := outer) (s := s) (H := H) (E := E) (n := 0) pg S hr
  refine ⟨_, hb.ps _ _ G, ρ, L3.start fn lvs, h, endS k x, srel_start hn iv, r, ?_, fun o eo => ?_⟩
  · unfold bodyR at e
    cases c : Nat.beq lvs.length fn.np with
    | false => rw [c] at e; exact (hx _ e).elim
    | true => rw [c] at e; exact e
  · cases o with
    | nxt s1 h1 => exact fun ρ1 H1 σ1 g1 _ => hk _ _ eo ρ1 H1 g1 trivial
    | brk s1 h1 => exact (hx _ eo).elim
    | cnt s1 h1 => exact (hx _ eo).elim
    | ret v h1 => exact fun ρ1 H1 g1 i1 => hk _ _ eo ρ1 H1 g1 i1
    | exc c d s1 h1 => exact fun ρ1 H1 σ1 g1 _ hd => hx _ eo ρ1 H1 g1 hd
    | bad => exact hx _ eo
theorem fn_one {n : Nat} {f : Nat} {F : FnI} {fn : Fn} {fd : FuncData} {x qual : Str} {params : Arguments} {body : List Stmt} {scope : Scope} {N : List Str} {dvs : List V} (ih : Pg pd (callN pd.T Fs sp gc n) P w K mg base (2 * n)) (hsp : SpOk pd.T Fs sp gc) (e1 : Fs[f]? = some fn)
    (FD : FunD K x qual params body scope dvs [] (He.fAd K F.at_) fd) (FS : FnScope N F.ps scope) (hn : fn.nn = N.length) (hb : ∀ D lev, SndSs pd D lev scope N body fn.body) :
    FnOk P w K mg base (L2.CX P w) (2 * n + 2) (He.fAd K F.at_) fd F.ps (spF pd.T K (callN pd.T Fs sp gc (n + 1)) f F.ps.length) := by
  refine FD.ok (k := 2 * n + 1) FS (fun vs H Q E q => ?_) (fun cdv A outer s H vs Q E hr q => ?_)
  · obtain ⟨ρ, h, lvs, k, x, rfl, l, _⟩ := q
    rw [List.length_map]; exact l
  · obtain ⟨ρ, h, lvs, k, x, rfl, l, iv, r, e, hk, hx⟩ := q
    rw [callN_call] at e
    cases c : sp n f with
    | none =>
      rw [c] at e
      dsimp only at e
      rw [e1] at e
      exact body_of ih FS hn (hb _ _) hr iv r e hk hx
    | some p =>
      rw [c] at e
      obtain ⟨_, z⟩ := hsp f p fn n lvs h k x c e1 e (fun y => (hx _ y).elim)
      obtain ⟨vs2, ρ2, h2, k2, x2, en, iv2, r2, e2, q1, q2⟩ := z K ρ H r iv
      rw [← en]
      exact body_of ih FS hn (hb _ _) hr iv2 r2 e2 (q1 Q hk) (q2 E hx)
theorem pg_all (S : PgS pd K mg) (hf : ∀ (f : Nat) (F : FnI), pd.fns[f]? = some F → ∃ fn : Fn, Fs[f]? = some fn ∧ FnB pd K F fn) (hg : GcOk gc) (hsp : SpOk pd.T Fs sp gc) :
    ∀ n, Pg pd (callN pd.T Fs sp gc n) P w K mg base (2 * n)
  | 0 => by
    refine { toPgS := S, dt := rfl, gc := hg, fn := fun f F hF => ?_, arity := fun f F lvs h k x hF e nb => (nb e).elim }
    obtain ⟨fn, e1, B⟩ := hf f F hF
    obtain ⟨fd, x, qual, params, body, scope, N, FD, FS, hn, hb, hB⟩ := B.ex
    refine ⟨fd, ⟨fun vs H Q E q => ?_, fun A outer s H args us vs Q E _ _ _ _ q => ?_⟩, hB⟩
    · obtain ⟨ρ, h, lvs, k, x, rfl, l, _⟩ := q
      rw [List.length_map]; exact l
    · obtain ⟨ρ, h, lvs, k, x, rfl, l, iv, r, e, hk, hx⟩ := q
      exact (hx _ e).elim
  | n + 1 => by
    have ih := pg_all S hf hg hsp n
    refine { toPgS := S, dt := rfl, gc := hg, fn := fun f F hF => ?_, arity := fun f F lvs h k x hF e nb => ?_ }
    · obtain ⟨fn, e1, B⟩ := hf f F hF
      obtain ⟨fd, x, qual, params, body, scope, N, FD, FS, hn, hb, hB⟩ := B.ex
      exact ⟨fd, fn_one ih hsp e1 FD FS hn hb, hB⟩
    · rw [callN_call] at e
      obtain ⟨fn, e1, B⟩ := hf f F hF
      cases c : sp n f with
      | none =>
        rw [c] at e
        dsimp only at e
        rw [e1] at e
        dsimp only at e
        unfold bodyR at e
        cases c2 : Nat.beq lvs.length fn.np with
        | false => rw [c2] at e; exact (nb e).elim
        | true => exact (Nat.eq_of_beq_eq_true c2).trans B.np
      | some p =>
        rw [c] at e
        exact (hsp f p fn n lvs h k x c e1 e nb).1.trans B.np
end
end L3

/-! L3N: the translation of a def's text, each part with its proof. -/
set_option autoImplicit false
set_option linter.all false
set_option maxRecDepth 100000
set_option maxHeartbeats 1000000
namespace L3
open PySem PyProof.Rows L2

/-- hints: numbers of names; a loop's dead slots, its turns, whether its target is read -/
structure Nm where
  g : Str → Option Nat
  c : Str → Option Nat
  fn : Str → Option Nat
  f : Str → Option Nat
  m : Str → Option Nat
  dead : Nat → List Nat
  turns : Nat → Nat
  drop : Nat → Bool
abbrev RE (pd : PD) (sc : Scope) (N : List Str) (e : Expr) := Option {i : IE // ∀ D lev, Snd pd D lev sc N e i}
abbrev RT (pd : PD) (sc : Scope) (N : List Str) (e : Expr) := Option {i : IE // ∀ D lev, SndT pd D lev sc N e i}
abbrev RA (pd : PD) (sc : Scope) (N : List Str) (es : List Expr) := Option {i : IEs // ∀ D lev, SndA' pd D lev sc N es i}
abbrev RI (pd : PD) (sc : Scope) (N : List Str) (e : Expr) := Option {i : II // ∀ D lev, SndI pd D lev sc N e i}
abbrev RG (pd : PD) (sc : Scope) (N : List Str) (e : Expr) := Option {i : IG // ∀ D lev, SndG pd D lev sc N e i}
abbrev RGs (pd : PD) (sc : Scope) (N : List Str) (es : List Expr) := Option {i : IGs // ∀ D lev, SndGs pd D lev sc N es i}
abbrev RTs (pd : PD) (sc : Scope) (N : List Str) (es : List Expr) := Option {i : IE // ∀ D lev, SndTs pd D lev sc N es i}
abbrev RP (pd : PD) (sc : Scope) (N : List Str) (ks : List (Option Expr)) (vs : List Expr) := Option {i : IEs // ∀ D lev, SndP pd D lev sc N ks vs i}
abbrev RS (pd : PD) (sc : Scope) (N : List Str) (s : Stmt) := Option {i : IS // ∀ D lev, SndS pd D lev sc N s i}
abbrev RSs (pd : PD) (sc : Scope) (N : List Str) (s : List Stmt) := Option {i : ISs // ∀ D lev, SndSs pd D lev sc N s i}

/-! ### operators -/
structure OpB (pd : PD) (op : Operator) where
  p : P
  r : Cx → R2
  ho : ∀ D lev sc N X W, Good pd D lev sc N X W → OpR X (binaryOp op) (r X)
  ok : ∀ D lev sc N X W, Good pd D lev sc N X W → R2Ok pd.T X.K p (r X)
  hp : ∀ T v w h, prim T p [v, w] h = bin T p v w h
def opB (pd : PD) : (op : Operator) → Option (OpB pd op)
  | .Add => some ⟨.add, fun _ => rAddA, fun _ _ _ _ _ _ _ => op_addA, fun _ _ _ _ _ _ _ => r_add, fun _ _ _ _ => rfl⟩
  | .Sub => some ⟨.sub, fun _ => _, fun _ _ _ _ _ _ _ => op_sub, fun _ _ _ _ _ _ _ => r_sub, fun _ _ _ _ => rfl⟩
  | .Mult => some ⟨.mul, fun _ => rMulA, fun _ _ _ _ _ _ _ => op_mulA, fun _ _ _ _ _ _ _ => r_mul, fun _ _ _ _ => rfl⟩
  | .FloorDiv => some ⟨.fdiv, fun _ => _, fun _ _ _ _ _ _ _ => op_fdiv, fun _ _ _ _ _ _ _ => r_fdiv, fun _ _ _ _ => rfl⟩
  | .Mod => some ⟨.mod, fun _ => _, fun _ _ _ _ _ _ _ => op_mod, fun _ _ _ _ _ _ _ => r_mod, fun _ _ _ _ => rfl⟩
  | .Pow => some ⟨.pow, fun _ => _, fun _ _ _ _ _ _ _ => op_pow, fun _ _ _ _ _ _ _ => r_pow, fun _ _ _ _ => rfl⟩
  | _ => none
structure OpC (pd : PD) (op : CmpOp) where
  p : P
  r : Cx → R2
  ho : ∀ D lev sc N X W, Good pd D lev sc N X W → OpR X (compareOp op) (r X)
  ok : ∀ D lev sc N X W, Good pd D lev sc N X W → R2Ok pd.T X.K p (r X)
  hp : ∀ T v w h, prim T p [v, w] h = bin T p v w h
def opC (pd : PD) : (op : CmpOp) → Option (OpC pd op)
  | .Eq => some ⟨.eq, fun X => rEqA X.K, fun _ _ _ _ _ _ G => op_eqA G.units, fun _ _ _ _ _ _ _ => r_eq, fun _ _ _ _ => rfl⟩
  | .NotEq => some ⟨.ne, fun X => rNeA X.K, fun _ _ _ _ _ _ G => op_neA G.units, fun _ _ _ _ _ _ _ => r_ne, fun _ _ _ _ => rfl⟩
  | .Lt => some ⟨.lt, fun _ => _, fun _ _ _ _ _ _ _ => op_lt, fun _ _ _ _ _ _ _ => r_lt, fun _ _ _ _ => rfl⟩
  | .LtE => some ⟨.le, fun _ => _, fun _ _ _ _ _ _ _ => op_le, fun _ _ _ _ _ _ _ => r_le, fun _ _ _ _ => rfl⟩
  | .Gt => some ⟨.gt, fun _ => _, fun _ _ _ _ _ _ _ => op_gt, fun _ _ _ _ _ _ _ => r_gt, fun _ _ _ _ => rfl⟩
  | .GtE => some ⟨.ge, fun _ => _, fun _ _ _ _ _ _ _ => op_ge, fun _ _ _ _ _ _ _ => r_ge, fun _ _ _ _ => rfl⟩
  | .In => some ⟨.inn, fun X => rIn X.K false, fun _ _ _ _ _ _ _ => op_in_seq, fun _ _ _ _ _ _ G => r_in G.pg.gt, fun _ _ _ _ => rfl⟩
  | .NotIn => some ⟨.notin, fun X => rIn X.K true, fun _ _ _ _ _ _ _ => op_notIn_seq, fun _ _ _ _ _ _ G => r_notin G.pg.gt, fun _ _ _ _ => rfl⟩
  | .Is => some ⟨.isB, fun _ => _, fun _ _ _ _ _ _ _ => op_is_bl, fun _ _ _ _ _ _ _ => r_isB, fun _ _ _ _ => rfl⟩
  | .IsNot => some ⟨.notB, fun _ => _, fun _ _ _ _ _ _ _ => op_isnot_bl, fun _ _ _ _ _ _ _ => r_notB, fun _ _ _ _ => rfl⟩
theorem r_neg (T : Tab) (K : PySem.W.Frag) : R1Ok T K .neg (rU fun i => .int (-i)) := by
  intro ρ h H v z h' Q r iv e q
  obtain ⟨i, rfl⟩ : ∃ i, v = .int i := by cases v <;> first | exact ⟨_, rfl⟩ | (exact nomatch e)
  obtain ⟨rfl, rfl⟩ := okn_eq (show okn (.int (-i)) h = some (z, h') from e)
  exact ⟨i, rfl, q ρ H (.refl r) trivial⟩
def noSlice : Expr → Bool
  | .Slice _ _ _ _ => false
  | _ => true
theorem noSlice_ok {b : Expr} (h : noSlice b = true) : PlainIx b := by
  intro o i
  cases b <;> first | rfl | cases h

section
variable (pd : PD) (nm : Nm) (N : List Str)
/-- the parts, one level -/
structure Cmp where
  e : ∀ sc e, RE pd sc N e
  t : ∀ sc e, RT pd sc N e
abbrev bd {α β : Type} (x : Option α) (f : α → Option β) : Option β := match x with
  | some a => f a
  | none => none
variable {pd N}
def cA (C : Cmp pd N) (sc : Scope) : (es : List Expr) → RA pd sc N es
  | [] => some ⟨.nil, fun _ _ => snda_nil⟩
  | e :: es => bd (C.e sc e) fun x => bd (cA C sc es) fun y => if h : noStar (e :: es) = true then some ⟨.cons x.1 y.1, fun D lev => snda_cons (x.2 D lev) (y.2 D lev) h⟩ else none
def cP (C : Cmp pd N) (sc : Scope) : (ks : List (Option Expr)) → (vs : List Expr) → RP pd sc N ks vs
  | [], [] => some ⟨.nil, fun _ _ => sndp_nil⟩
  | some k :: ks, v :: vs => bd (C.e sc k) fun x => bd (C.e sc v) fun y => bd (cP C sc ks vs) fun z => some ⟨.cons x.1 (.cons y.1 z.1), fun D lev => sndp_cons (x.2 D lev) (y.2 D lev) (z.2 D lev)⟩
  | _, _ => none
def cAnd (C : Cmp pd N) (sc : Scope) (pos : Pos) : (es : List Expr) → RE pd sc N (.BoolOp .And es pos)
  | [] => none
  | [a] => bd (C.e sc a) fun x => some ⟨x.1, fun D lev => snd_one (x.2 D lev)⟩
  | a :: b :: es => bd (C.e sc a) fun x => bd (cAnd C sc pos (b :: es)) fun y => some ⟨.and x.1 y.1, fun D lev => snd_and (x.2 D lev) (y.2 D lev)⟩
def cOr (C : Cmp pd N) (sc : Scope) (pos : Pos) : (es : List Expr) → RE pd sc N (.BoolOp .Or es pos)
  | [] => none
  | [a] => bd (C.e sc a) fun x => some ⟨x.1, fun D lev => snd_one (x.2 D lev)⟩
  | a :: b :: es => bd (C.e sc a) fun x => bd (cOr C sc pos (b :: es)) fun y => some ⟨.or x.1 y.1, fun D lev => snd_or (x.2 D lev) (y.2 D lev)⟩
def cAndT (C : Cmp pd N) (sc : Scope) (pos : Pos) : (es : List Expr) → Option {i : IE // ∀ D lev, SndW pd D lev sc N (.BoolOp .And es pos) i}
  | [] => none
  | [a] => bd (C.t sc a) fun x => some ⟨x.1, fun D lev => sndW_and1 (x.2 D lev)⟩
  | a :: b :: es => bd (C.t sc a) fun x => bd (cAndT C sc pos (b :: es)) fun y => some ⟨.and x.1 y.1, fun D lev => sndW_and (x.2 D lev) (y.2 D lev)⟩
def cOrT (C : Cmp pd N) (sc : Scope) (pos : Pos) : (es : List Expr) → Option {i : IE // ∀ D lev, SndW pd D lev sc N (.BoolOp .Or es pos) i}
  | [] => none
  | [a] => bd (C.t sc a) fun x => some ⟨x.1, fun D lev => sndW_or1 (x.2 D lev)⟩
  | a :: b :: es => bd (C.t sc a) fun x => bd (cOrT C sc pos (b :: es)) fun y => some ⟨.or x.1 y.1, fun D lev => sndW_or (x.2 D lev) (y.2 D lev)⟩
/-- the place of a name -/
def ixOf (x : Str) : List Str → Nat → Nat
  | [], i => i
  | y :: ys, i => if x = y then i else ixOf x ys (i + 1)
def cName (sc : Scope) (x : Str) (pos : Pos) : RE pd sc N (.Name x pos) :=
  if hv : visB sc x = true then
    if hN : N[ixOf x N 0]? = some x then if hd : dbgB x = true then some ⟨.var (ixOf x N 0), fun _ _ => snd_var hN hv hd⟩ else none else none
  else bd (nm.g x) fun i => if hx : pd.T.gn i = x then if hm : x ∈ pd.glos then if hg : gloB sc x = true then if hd : dbgB x = true then some ⟨.con (.gl i), fun _ _ => snd_glob hx hm hg hd⟩ else none else none else none else none
def cTy (sc : Scope) (x : Str) : Option {t : Ty // ClsN pd sc x t} :=
  if hd : dbgB x = true then if hg : gloB sc x = true then
    if hf : x ∈ pd.frees then
      if h : x = "int" then some ⟨.int, ⟨rfl, hg, hd, .inr ⟨fun _ => nofun, hf, "int", by rw [h]; rfl, fun _ _ => ⟨rfl, rfl⟩⟩⟩⟩
      else if h : x = "bool" then some ⟨.bool, ⟨rfl, hg, hd, .inr ⟨fun _ => nofun, hf, "bool", by rw [h]; rfl, fun _ _ => ⟨rfl, rfl⟩⟩⟩⟩
      else if h : x = "str" then some ⟨.str, ⟨rfl, hg, hd, .inr ⟨fun _ => nofun, hf, "str", by rw [h]; rfl, fun _ _ => ⟨rfl, rfl⟩⟩⟩⟩
      else if h : x = "list" then some ⟨.list, ⟨rfl, hg, hd, .inr ⟨fun _ => nofun, hf, "list", by rw [h]; rfl, fun _ _ => ⟨rfl, rfl⟩⟩⟩⟩
      else if h : x = "tuple" then some ⟨.tuple, ⟨rfl, hg, hd, .inr ⟨fun _ => nofun, hf, "tuple", by rw [h]; rfl, fun _ _ => ⟨rfl, rfl⟩⟩⟩⟩
      else if h : x = "dict" then some ⟨.dict, ⟨rfl, hg, hd, .inr ⟨fun _ => nofun, hf, "dict", by rw [h]; rfl, fun _ _ => ⟨rfl, rfl⟩⟩⟩⟩
      else none
    else bd (nm.c x) fun c => if hc : tyOk pd (.own c) = true then if hx : pd.T.gn (pd.T.cg c) = x then if hm : x ∈ pd.glos then some ⟨.own c, ⟨hc, hg, hd, .inl ⟨c, rfl, hx, hm⟩⟩⟩ else none else none else none
  else none else none
/-- f(..) -/
def cCall (C : Cmp pd N) (sc : Scope) (x : Str) (np : Pos) (es : List Expr) (pos : Pos) : RE pd sc N (.Call (.Name x np) es [] pos) :=
  if hd : dbgB x = true then if hg : gloB sc x = true then
    if hf : x ∈ pd.frees then
      if hi : x = "isinstance" then match es with
        | [a, .Name y p2] => bd (C.e sc a) fun i => bd (cTy nm sc y) fun t => if hs : noStar [a, .Name y p2] = true then some ⟨.prim (.isi [t.1]) (.cons i.1 .nil), fun D lev => by subst hi; exact snd_isi1 (i.2 D lev) t.2 hs hg hf⟩ else none
        | [a, .Tuple [.Name y1 p1, .Name y2 p2] j p3] => bd (C.e sc a) fun i => bd (cTy nm sc y1) fun t1 => bd (cTy nm sc y2) fun t2 => if hs : noStar [a, .Tuple [.Name y1 p1, .Name y2 p2] j p3] = true then some ⟨.prim (.isi [t1.1, t2.1]) (.cons i.1 .nil), fun D lev => by subst hi; exact snd_isi2 (i.2 D lev) t1.2 t2.2 hs hg hf⟩ else none
        | _ => none
      else match es with
        | [a] => bd (C.e sc a) fun i => if hs : noStar [a] = true then
            if h : x = "len" then some ⟨.prim .len (.cons i.1 .nil), fun D lev => by subst h; exact snd_b1 (r := fun X => rLenA X.K) (snda_cons (i.2 D lev) snda_nil hs) (fun X W G => (CallR.or call_len call_lenD)) (fun X W G => c_len G.pg.gt) (fun _ _ _ => rfl) hg hd hf boot_len⟩
            else if h : x = "int" then some ⟨.prim .int (.cons i.1 .nil), fun D lev => by subst h; exact snd_t1 (r := fun X => _) (snda_cons (i.2 D lev) snda_nil hs) (fun X W G => call_int1) (fun X W G => c_int) (fun _ _ _ => rfl) hg hd hf rfl⟩
            else if h : x = "list" then some ⟨.prim .list (.cons i.1 .nil), fun D lev => by subst h; exact snd_t1 (r := fun X => _) (snda_cons (i.2 D lev) snda_nil hs) (fun X W G => call_list_of) (fun X W G => c_list G.pg.gt) (fun _ _ _ => rfl) hg hd hf rfl⟩
            else none else none
        | [a, b] => bd (C.e sc a) fun i => bd (C.e sc b) fun j => if hs : noStar [a, b] = true then
            if h : x = "min" then some ⟨.prim .min2 (.cons i.1 (.cons j.1 .nil)), fun D lev => by subst h; exact snd_b2 (r := fun X => _) (snda_cons (i.2 D lev) (snda_cons (j.2 D lev) snda_nil (star_rest hs)) hs) (fun X W G => call_min2 G.calm) (fun X W G => c_min) (fun _ _ _ _ => rfl) hg hd hf rfl⟩
            else if h : x = "max" then some ⟨.prim .max2 (.cons i.1 (.cons j.1 .nil)), fun D lev => by subst h; exact snd_b2 (r := fun X => _) (snda_cons (i.2 D lev) (snda_cons (j.2 D lev) snda_nil (star_rest hs)) hs) (fun X W G => call_max2 G.calm) (fun X W G => c_max) (fun _ _ _ _ => rfl) hg hd hf rfl⟩
            else none else none
        | _ => none
    else if hm : x ∈ pd.glos then bd (cA C sc es) fun as => match nm.fn x with
      | some f => match hF : pd.fns[f]? with
        | some F => if ha : F.at_ = (x, none) then if hj : F.ps.length - es.length ≤ F.dfl.length then some ⟨.call f as.1 (F.dfl.drop (F.dfl.length - (F.ps.length - es.length))), fun D lev => snd_call (as.2 D lev) hF ha (Nat.sub_le _ _) hg hm hd⟩ else none else none
        | none => none
      | none => bd (nm.c x) fun c => if hc : pd.T.okc c = true then if hx : pd.T.gn (pd.T.cg c) = x then match hi : pd.T.ini c with
          | some f => match hF : pd.fns[f]? with
            | some F => if hj : F.ps.length - (es.length + 1) ≤ F.dfl.length then some ⟨.make c as.1 (F.dfl.drop (F.dfl.length - (F.ps.length - (es.length + 1)))), fun D lev => snd_make (as.2 D lev) hc hi hF hx (Nat.sub_le _ _) hg hm hd⟩ else none
            | none => none
          | none => none else none else none
    else none
  else none else none
/-- C.m(self, ..) -/
def cSup (C : Cmp pd N) (sc : Scope) (o : Expr) (m : Str) (apos : Pos) (es : List Expr) (pos : Pos) : RE pd sc N (.Call (.Attribute o m apos) es [] pos) :=
  match o, es with
  | .Name y np, a :: r => match hf : pd.sups.find? (fun q => decide (q.1 = y ∧ q.2.1 = m)) with
    | some q => bd (cA C sc (a :: r)) fun as => if hp : (apos.endLine == pos.line) = true then if hl : (a :: r).length < 30 then if hg : gloB sc y = true then if hm : y ∈ pd.glos then if hd : dbgB y = true then if he : q.1 = y ∧ q.2.1 = m then
        some ⟨.call q.2.2 as.1 [], fun D lev => snd_sup (as.2 D lev) (by have := List.mem_of_find?_eq_some hf; rw [← he.1, ← he.2]; exact this) hg hm hd hl hp⟩ else none else none else none else none else none else none
    | none => none
  | _, _ => none
/-- o.m(..) -/
def cMeth (C : Cmp pd N) (sc : Scope) (o : Expr) (m : Str) (apos : Pos) (es : List Expr) (pos : Pos) : RE pd sc N (.Call (.Attribute o m apos) es [] pos) :=
  if hp : (apos.endLine == pos.line) = true then if hb : plainB o = true then
    if hq : m = "get" then match es with
      | [a] => bd (C.e sc o) fun x => bd (C.e sc a) fun y => if hs : noStar [a] = true then some ⟨.bmeth .dic .get1 x.1 (.cons y.1 .nil), fun D lev => by subst hq; exact snd_get1 (x.2 D lev) (y.2 D lev) hb hs hp⟩ else none
      | [a, b] => bd (C.e sc o) fun x => bd (C.e sc a) fun y => bd (C.e sc b) fun z => if hs : noStar [a, b] = true then some ⟨.bmeth .dic .get2 x.1 (.cons y.1 (.cons z.1 .nil)), fun D lev => by subst hq; exact snd_get2 (x.2 D lev) (y.2 D lev) (z.2 D lev) hb hs hp⟩ else none
      | _ => none
    else match cSup C sc o m apos es pos with
      | some r => some r
      | none => if hl : es.length < 30 then bd (C.e sc o) fun x => bd (cA C sc es) fun as => bd (nm.m m) fun k => if hn : pd.T.mn k = m then some ⟨.meth k x.1 as.1, fun D lev => snd_meth (x.2 D lev) (as.2 D lev) hn hb hl hp⟩ else none else none
  else none else none
def cGs (sc : Scope) (G : (e : Expr) → RG pd sc N e) : (es : List Expr) → RGs pd sc N es
  | [] => some ⟨.nil, fun _ _ => sndgs_nil⟩
  | e :: es => bd (G e) fun x => bd (cGs sc G es) fun y => some ⟨.cons x.1 y.1, fun D lev => sndgs_cons (x.2 D lev) (y.2 D lev)⟩
def stepG (sc : Scope) (G : (e : Expr) → RG pd sc N e) (e : Expr) : RG pd sc N e := match e with
  | .Name x pos => if hN : N[ixOf x N 0]? = some x then if hl : locB sc x = true then some ⟨.name (ixOf x N 0), fun _ _ => sndg_name hN hl⟩ else none else none
  | .Tuple es k pos => bd (cGs sc G es) fun x => some ⟨.tup x.1, fun D lev => sndg_tup (x.2 D lev)⟩
  | _ => none
def cG (sc : Scope) : (n : Nat) → (e : Expr) → RG pd sc N e
  | 0 => fun _ => none
  | n + 1 => stepG sc (cG sc n)
def cIp (C : Cmp pd N) (sc : Scope) (e : Expr) : RI pd sc N e := bd (C.e sc e) fun x => if hn : noSet e = true then some ⟨.seq x.1, fun D lev => sndi_seq (x.2 D lev) hn⟩ else none
def cI (C : Cmp pd N) (sc : Scope) (e : Expr) : RI pd sc N e :=
  match e with
  | .Call (.Name f np) [a] [] pos => if h : f = "range" then bd (C.e sc a) fun x => if hn : noStar [a] = true then if hg : gloB sc "range" = true then if hf : ("range" : Str) ∈ pd.frees then some ⟨.rng1 x.1, fun D lev => by subst h; exact sndi_rng1 (x.2 D lev) hn hg hf⟩ else none else none else none else cIp C sc _
  | .Call (.Name f np) [a, b] [] pos => if h : f = "range" then bd (C.e sc a) fun x => bd (C.e sc b) fun y => if hn : noStar [a, b] = true then if hg : gloB sc "range" = true then if hf : ("range" : Str) ∈ pd.frees then some ⟨.rng2 x.1 y.1, fun D lev => by subst h; exact sndi_rng2 (x.2 D lev) (y.2 D lev) hn hg hf⟩ else none else none else none else cIp C sc _
  | e => cIp C sc e
def cTs (C : Cmp pd N) (sc : Scope) : (es : List Expr) → RTs pd sc N es
  | [] => some ⟨.con (.bl true), fun _ _ => sndts_nil⟩
  | [e] => bd (C.t sc e) fun x => some ⟨x.1, fun D lev => sndts_one (x.2 D lev)⟩
  | _ => none
/-- a comprehension's own names -/
def ownOf (N : List Str) (scope : Scope) : List (Str × Nat) := scope.names.filterMap fun y => match y.2 with
  | .local => if y.1 ∈ N then some (y.1, ixOf y.1 N 0) else none
  | .cell => if y.1 ∈ N then some (y.1, ixOf y.1 N 0) else none
  | _ => none
/-- the parts of a comprehension -/
structure LcP (pd : PD) (N : List Str) (sc : Scope) (elt tg iter : Expr) (ifs : List Expr) (scope : Scope) where
  it : II
  g : IG
  t : IE
  x : IE
  os : List Nat
  hi : ∀ D lev, SndI pd D lev sc N iter it
  hb : blkB N sc scope (ownOf N scope) = true
  hos : (ownOf N scope).map (·.2) = os
  hg : ∀ D lev, SndG pd D lev scope N tg g
  ht : ∀ D lev, SndTs pd D lev scope N ifs t
  he : ∀ D lev, Snd pd D lev scope N elt x
  ho : g.own.all (fun i => decide (i ∈ os)) = true
def cLc (C : Cmp pd N) (sc : Scope) (elt tg iter : Expr) (ifs : List Expr) (scope : Scope) : Option (LcP pd N sc elt tg iter ifs scope) :=
  bd (cI C sc iter) fun it => bd (cG scope 4 tg) fun g => bd (cTs C scope ifs) fun t => bd (C.e scope elt) fun x =>
    if hb : blkB N sc scope (ownOf N scope) = true then if ho : g.1.own.all (fun i => decide (i ∈ (ownOf N scope).map (·.2))) = true then
      some ⟨it.1, g.1, t.1, x.1, (ownOf N scope).map (·.2), it.2, hb, rfl, g.2, t.2, x.2, ho⟩ else none else none
def cCmpP (C : Cmp pd N) (sc : Scope) (a : Expr) (op : CmpOp) (b : Expr) (pos : Pos) : RE pd sc N (.Compare a [op] [b] pos) := bd (opC pd op) fun o => bd (C.e sc a) fun x => bd (C.e sc b) fun y => if hm : behindInMarks op b = false then some ⟨.prim o.p (.cons x.1 (.cons y.1 .nil)), fun D lev => snd_cmp (x.2 D lev) (y.2 D lev) (o.ho D lev sc N) (o.ok D lev sc N) o.hp hm⟩ else none
def cCmp (C : Cmp pd N) (sc : Scope) (a : Expr) (op : CmpOp) (b : Expr) (pos : Pos) : RE pd sc N (.Compare a [op] [b] pos) :=
  match op, b with
  | .Is, .Constant .none j p' => bd (C.e sc a) fun x => some ⟨.prim .isN (.cons x.1 .nil), fun D lev => snd_isN (x.2 D lev)⟩
  | .IsNot, .Constant .none j p' => bd (C.e sc a) fun x => some ⟨.prim .notN (.cons x.1 .nil), fun D lev => snd_notN (x.2 D lev)⟩
  | op, b => cCmpP C sc a op b pos
def cCmpTP (C : Cmp pd N) (sc : Scope) (a : Expr) (op : CmpOp) (b : Expr) (pos : Pos) : RT pd sc N (.Compare a [op] [b] pos) := bd (opC pd op) fun o => bd (C.e sc a) fun x => bd (C.e sc b) fun y => if hm : behindInMarks op b = false then some ⟨.prim o.p (.cons x.1 (.cons y.1 .nil)), fun D lev => sndT_cmp (x.2 D lev) (y.2 D lev) (o.ho D lev sc N) (o.ok D lev sc N) o.hp hm⟩ else none
def cCmpT (C : Cmp pd N) (sc : Scope) (a : Expr) (op : CmpOp) (b : Expr) (pos : Pos) : RT pd sc N (.Compare a [op] [b] pos) :=
  match op, b with
  | .Is, .Constant .none j p' => bd (C.e sc a) fun x => some ⟨.prim .isN (.cons x.1 .nil), fun D lev => sndT_isN (x.2 D lev)⟩
  | .IsNot, .Constant .none j p' => bd (C.e sc a) fun x => some ⟨.prim .notN (.cons x.1 .nil), fun D lev => sndT_notN (x.2 D lev)⟩
  | op, b => cCmpTP C sc a op b pos
def stepE (C : Cmp pd N) (sc : Scope) (e : Expr) : RE pd sc N e := match e with
  | .Name x pos => cName nm sc x pos
  | .Constant (.int i) _ _ => some ⟨.con (.int i), fun _ _ => snd_int⟩
  | .Constant (.bool i) _ _ => some ⟨.con (.bl i), fun _ _ => snd_bool⟩
  | .Constant .none _ _ => some ⟨.con .non, fun _ _ => snd_none⟩
  | .Constant (.str x) _ _ => some ⟨.con (.str x.cps.toList), fun _ _ => snd_str⟩
  | .BinOp a op b _ => bd (opB pd op) fun o => bd (C.e sc a) fun x => bd (C.e sc b) fun y => some ⟨.prim o.p (.cons x.1 (.cons y.1 .nil)), fun D lev => snd_bin (x.2 D lev) (y.2 D lev) (o.ho D lev sc N) (o.ok D lev sc N) o.hp⟩
  | .UnaryOp .Not a _ => bd (C.e sc a) fun x => some ⟨.prim .not (.cons x.1 .nil), fun D lev => snd_not (x.2 D lev)⟩
  | .UnaryOp .USub a _ => bd (C.e sc a) fun x => some ⟨.prim .neg (.cons x.1 .nil), fun D lev => snd_neg (x.2 D lev) (fun _ => un_neg) r_neg⟩
  | .BoolOp .And es pos => cAnd C sc pos es
  | .BoolOp .Or es pos => cOr C sc pos es
  | .Compare a [op] [b] pos => cCmp C sc a op b pos
  | .Compare a [op, op'] [b, c] _ => bd (opC pd op) fun o => bd (opC pd op') fun o' => bd (C.e sc a) fun x => bd (C.e sc b) fun y => bd (C.e sc c) fun z => if hm : lastMarks [op, op'] [b, c] = false then
      some ⟨.chain o.p o'.p x.1 y.1 z.1, fun D lev => snd_chain (x.2 D lev) (y.2 D lev) (z.2 D lev) (o.ho D lev sc N) (o.ok D lev sc N) (o'.ho D lev sc N) (o'.ok D lev sc N) hm⟩ else none
  | .IfExp t a b _ => bd (C.t sc t) fun x => bd (C.e sc a) fun y => bd (C.e sc b) fun z => some ⟨.ife x.1 y.1 z.1, fun D lev => snd_ife (x.2 D lev) (y.2 D lev) (z.2 D lev)⟩
  | .Tuple es _ _ => bd (cA C sc es) fun x => some ⟨.prim .tup x.1, fun D lev => snd_tup (x.2 D lev)⟩
  | .List es _ => bd (cA C sc es) fun x => some ⟨.prim .lst x.1, fun D lev => snd_lst (x.2 D lev)⟩
  | .Dict ks vs _ => bd (cP C sc ks vs) fun x => if h0 : ks ≠ [] then if h1 : ks.length ≤ 15 then if h2 : x.1.len ≤ 30 then some ⟨.prim .dct x.1, fun D lev => snd_dct (x.2 D lev) h0 h1 h2⟩ else none else none else none
  | .Attribute o n _ => bd (C.e sc o) fun x => bd (nm.f n) fun f => if hb : plainB o = true then if hn : pd.T.fn f = n then if hf : pd.okf f = true then some ⟨.prim (.fld f) (.cons x.1 .nil), fun D lev => snd_fld (x.2 D lev) hb hn hf⟩ else none else none else none
  | .Subscript a b _ => bd (C.e sc a) fun x => bd (C.e sc b) fun y => if hs : noSlice b = true then some ⟨.prim .ix (.cons x.1 (.cons y.1 .nil)), fun D lev => snd_ix (x.2 D lev) (y.2 D lev) (noSlice_ok hs)⟩ else none
  | .Call (.Name x np) es [] pos => cCall nm C sc x np es pos
  | .Call (.Attribute o m apos) es [] pos => cMeth nm C sc o m apos es pos
  | .ListComp elt [⟨tg, iter, ifs, 0⟩] scope _ => bd (cLc C sc elt tg iter ifs scope) fun L => some ⟨.comp L.os L.g L.it L.t L.x, fun D lev => snd_lc (L.hi D lev) L.hb L.hos (L.hg D lev) (L.ht D lev) (L.he D lev) L.ho⟩
  | _ => none
/-- where there is no word for it: bad -/
def orBad {sc : Scope} {e : Expr} (r : RE pd sc N e) : RE pd sc N e := match r with
  | some r => some r
  | none => if h : noStar [e] = true then some ⟨.bad, fun _ _ => snd_bad h⟩ else none
def stepT (C : Cmp pd N) (sc : Scope) (e : Expr) : RT pd sc N e := match e with
  | .UnaryOp .Not a _ => bd (C.t sc a) fun x => some ⟨.prim .not (.cons x.1 .nil), fun D lev => sndT_not (x.2 D lev)⟩
  | .BoolOp .And es pos => bd (cAndT C sc pos es) fun x => some ⟨x.1, fun D lev => (x.2 D lev).t⟩
  | .BoolOp .Or es pos => bd (cOrT C sc pos es) fun x => some ⟨x.1, fun D lev => (x.2 D lev).t⟩
  | .Compare a [op] [b] pos => cCmpT C sc a op b pos
  | .Compare a [op, op'] [b, c] _ => bd (opC pd op) fun o => bd (opC pd op') fun o' => bd (C.e sc a) fun x => bd (C.e sc b) fun y => bd (C.e sc c) fun z => if hm : lastMarks [op, op'] [b, c] = false then
      some ⟨.chain o.p o'.p x.1 y.1 z.1, fun D lev => sndT_chain (x.2 D lev) (y.2 D lev) (z.2 D lev) (o.ho D lev sc N) (o.ok D lev sc N) (o'.ho D lev sc N) (o'.ok D lev sc N) hm⟩ else none
  | e => bd (C.e sc e) fun x => if h : plainT e = true then some ⟨x.1, fun D lev => sndT_val (x.2 D lev) h⟩ else none
def cmp (pd : PD) (N : List Str) : Nat → Cmp pd N
  | 0 => ⟨fun _ _ => none, fun _ _ => none⟩
  | n + 1 => ⟨fun sc e => orBad (stepE nm (cmp pd N n) sc e), fun sc e => stepT (cmp pd N n) sc e⟩

/-! ### statements -/
def cAsg (C : Cmp pd N) (sc : Scope) (t e : Expr) (pos : Pos) : RS pd sc N (.Assign [t] e pos) :=
  match t, e with
  | .Name y py, .ListComp elt [⟨tg, iter, ifs, 0⟩] scope lpos => bd (cLc C sc elt tg iter ifs scope) fun L => if hN : N[ixOf y N 0]? = some y then if hl : locB sc y = true then if hk : sc.kind = .function then
      some ⟨.asg (.name (ixOf y N 0)) (.comp L.os L.g L.it L.t L.x), fun D lev => snds_setLc (L.hi D lev) L.hb L.hos (L.hg D lev) (L.ht D lev) (L.he D lev) L.ho hN hl hk⟩ else none else none else none
  | .Name y py, e => bd (C.e sc e) fun x => if hN : N[ixOf y N 0]? = some y then if hl : locB sc y = true then if hc : noComp e = true then some ⟨.asg (.name (ixOf y N 0)) x.1, fun D lev => snds_set (x.2 D lev) (.inl rfl) hN hl hc⟩ else none else none else none
  | .Tuple ts k p, e => bd (C.e sc e) fun x => bd (cGs sc (cG (pd := pd) (N := N) sc 3) ts) fun gs => if hc : noComp e = true then if ht : noTup e = true then if hm : gs.1.calm = true then some ⟨.asg (.tup gs.1) x.1, fun D lev => snds_unp (x.2 D lev) (gs.2 D lev) hc ht hm⟩ else none else none else none
  | .Subscript o i pos', e => bd (C.e sc o) fun x => bd (C.e sc i) fun y => bd (C.e sc e) fun z => if hc : noComp e = true then if hs : noSlice' i = true then some ⟨.asg (.sub x.1 y.1) z.1, fun D lev => snds_sub (x.2 D lev) (y.2 D lev) (z.2 D lev) hc hs⟩ else none else none
  | .Attribute o n pos', e => bd (C.e sc e) fun y => bd (C.e sc o) fun x => bd (nm.f n) fun f => if hn : pd.T.fn f = n then if hf : pd.okf f = true then if hc : noComp e = true then some ⟨.asg (.fld x.1 f) y.1, fun D lev => snds_fld (x.2 D lev) (y.2 D lev) hn hf hc⟩ else none else none else none
  | _, _ => none
def cFor (sc : Scope) (l : Nat) (tg : Expr) : RG pd sc N tg := match tg with
  | .Name x pos => if nm.drop l then (if hN : N[ixOf x N 0]? = some x then if hl : locB sc x = true then some ⟨.drop (ixOf x N 0), fun _ _ => sndg_drop hN hl⟩ else none else none) else cG sc 4 (.Name x pos)
  | tg => cG sc 4 tg
def stepS (C : Cmp pd N) (sc : Scope) (S : (st : List Stmt) → RSs pd sc N st) (st : Stmt) : RS pd sc N st := match st with
  | .Pass _ => some ⟨.pass, fun _ _ => snds_pass⟩
  | .Break _ => some ⟨.brk, fun _ _ => snds_brk⟩
  | .Continue _ => some ⟨.cnt, fun _ _ => snds_cnt⟩
  | .Expr (.Constant (.str x) _ _) _ => some ⟨.pass, fun _ _ => snds_doc⟩
  | .Expr e _ => bd (C.e sc e) fun x => if hc : noComp e = true then some ⟨.expr x.1, fun D lev => snds_expr (x.2 D lev) hc⟩ else none
  | .Return none _ => some ⟨.retN, fun _ _ => snds_retN⟩
  | .Return (some e) _ => bd (C.e sc e) fun x => some ⟨.ret x.1, fun D lev => snds_ret (x.2 D lev)⟩
  | .Assign [t] e pos => cAsg nm C sc t e pos
  | .AugAssign (.Name x pos') .Add e _ => bd (C.e sc e) fun y => if hN : N[ixOf x N 0]? = some x then if hl : locB sc x = true then some ⟨.aug (ixOf x N 0) y.1, fun D lev => snds_aug (y.2 D lev) hN hl⟩ else none else none
  | .If t a b _ => bd (C.t sc t) fun x => bd (S a) fun y => bd (S b) fun z => some ⟨.ite x.1 y.1 z.1, fun D lev => snds_ite (x.2 D lev) (y.2 D lev) (z.2 D lev)⟩
  | .While t b [] pos => bd (C.t sc t) fun x => bd (S b) fun y => some ⟨.whl (nm.dead pos.line) (nm.turns pos.line) x.1 y.1, fun D lev => snds_whl (x.2 D lev) (y.2 D lev)⟩
  | .For tg iter b [] pos => bd (cI C sc iter) fun it => bd (cFor nm sc pos.line tg) fun g => bd (S b) fun y => some ⟨.for_ (nm.dead pos.line) g.1 it.1 y.1, fun D lev => snds_for (it.2 D lev) (g.2 D lev) (y.2 D lev)⟩
  | _ => none
def orBadS {sc : Scope} {st : Stmt} (r : RS pd sc N st) : RS pd sc N st := match r with
  | some r => some r
  | none => some ⟨.bad, fun _ _ => snds_bad⟩
def cGo (sc : Scope) (S : (s : Stmt) → RS pd sc N s) : (st : List Stmt) → RSs pd sc N st
  | [] => some ⟨.nil, fun _ _ => sndss_nil⟩
  | s :: ss => bd (S s) fun x => bd (cGo sc S ss) fun y => some ⟨.cons x.1 y.1, fun D lev => sndss_cons (x.2 D lev) (y.2 D lev)⟩
def cSs (C : Cmp pd N) (sc : Scope) : Nat → (st : List Stmt) → RSs pd sc N st
  | 0 => fun _ => none
  | n + 1 => cGo sc fun s => orBadS (stepS nm C sc (cSs C sc n) s)
/-- a def's body -/
def cFn (pd : PD) (nm : Nm) (N : List Str) (sc : Scope) (body : List Stmt) : Option ISs := match cSs nm (cmp nm pd N 20) sc 12 body with
  | some x => some x.1
  | none => none
theorem cFn_ok {pd : PD} {nm : Nm} {N : List Str} {sc : Scope} {body : List Stmt} {is : ISs} (h : cFn pd nm N sc body = some is) : ∀ D lev, SndSs pd D lev sc N body is := by
  unfold cFn at h
  cases c : cSs nm (cmp nm pd N 20) sc 12 body with
  | none => rw [c] at h; cases h
  | some x => rw [c] at h; cases h; exact x.2
end
end L3

/-! L3O: tables of a program; what the head tells of them; the law's end. -/
set_option autoImplicit false
set_option linter.all false
set_option maxRecDepth 100000
set_option maxHeartbeats 1000000
namespace L3
open PySem PyProof.Rows L2

/-! ### tables -/
structure CI where
  g : Nat
  mths : List (Nat × Nat)
  ini : Option Nat
  sup : List Nat
/-- a def: what it is, its text, its translation -/
structure FD where
  F : FnI
  name : Str
  qual : Str
  params : Arguments
  body : List Stmt
  scope : Scope
  N : List Str
  is : ISs
def FD.fn (d : FD) : Fn := ⟨d.F.ps.length, d.N.length, d.is⟩
structure TL where
  gns : List Str
  fds : List Str
  mns : List Str
  cls : List CI
  fns : List FnI
  gts : List (Nat × List LV)
  sups : List (Str × Str × Nat)
  glos : List Str
  frees : List Str
def nmOf (l : List Str) (c : Nat) (i : Nat) : Str := match l[i]? with
  | some x => x
  | none => toStr (List.replicate (i + 1) c)
/-- no name begins so -/
def noHd (l : List Str) (c : Nat) : Bool := l.all fun x => match x.cps.toList with
  | a :: _ => !Nat.beq a c
  | [] => true
theorem noHd_at {l : List Str} {c i : Nat} {x : Str} (h : noHd l c = true) (e : l[i]? = some x) (n : Nat) : x ≠ toStr (List.replicate (n + 1) c) := by
  intro z
  have := List.all_eq_true.mp h x (List.mem_of_getElem? e)
  rw [z] at this
  have t : (toStr (List.replicate (n + 1) c)).cps.toList = c :: List.replicate n c := by simp [toStr, List.replicate_succ]
  rw [t] at this
  simp at this
theorem nmOf_inj {l : List Str} {c : Nat} (nd : l.Nodup) (h : noHd l c = true) {i j : Nat} (e : nmOf l c i = nmOf l c j) : i = j := by
  unfold nmOf at e
  cases hi : l[i]? with
  | some x =>
    cases hj : l[j]? with
    | some y =>
      rw [hi, hj] at e
      dsimp only at e
      subst e
      obtain ⟨li, ei⟩ := List.getElem?_eq_some_iff.mp hi
      obtain ⟨lj, ej⟩ := List.getElem?_eq_some_iff.mp hj
      exact (List.getElem_inj nd).mp (ei.trans ej.symm)
    | none =>
      rw [hi, hj] at e
      exact absurd e (noHd_at h hi j)
  | none =>
    cases hj : l[j]? with
    | some y =>
      rw [hi, hj] at e
      exact absurd e.symm (noHd_at h hj i)
    | none =>
      rw [hi, hj] at e
      have := congrArg List.length (toStr_inj e)
      simpa using this
theorem nmOf_ne {l m : List Str} {c d : Nat} (hcd : c ≠ d) (h1 : noHd l d = true) (h2 : noHd m c = true) (h3 : (l.all fun x => !m.contains x) = true) (i j : Nat) : nmOf l c i ≠ nmOf m d j := by
  intro e
  unfold nmOf at e
  cases hi : l[i]? with
  | some x =>
    cases hj : m[j]? with
    | some y =>
      rw [hi, hj] at e
      dsimp only at e
      subst e
      have := List.all_eq_true.mp h3 x (List.mem_of_getElem? hi)
      rw [List.contains_iff_mem.mpr (List.mem_of_getElem? hj)] at this
      cases this
    | none => rw [hi, hj] at e; exact absurd e (noHd_at h1 hi j)
  | none =>
    cases hj : m[j]? with
    | some y => rw [hi, hj] at e; exact absurd e.symm (noHd_at h2 hj i)
    | none =>
      rw [hi, hj] at e
      have := toStr_inj e
      simp only [List.replicate_succ, List.cons.injEq] at this
      exact hcd this.1
def TL.pd (t : TL) : PD where
  T := {
    gn := nmOf t.gns 33
    fn := nmOf t.fds 35
    mn := nmOf t.mns 36
    cg := fun c => match t.cls[c]? with | some i => i.g | none => 0
    mth := fun c m => match t.cls[c]? with | some i => i.mths.lookup m | none => none
    ini := fun c => match t.cls[c]? with | some i => i.ini | none => none
    sub := fun c d => match t.cls[c]? with | some i => i.sup.contains d | none => false
    xf := fun _ => 0
    okc := fun c => Nat.blt c t.cls.length
    gt := fun i => t.gts.lookup i }
  fns := t.fns
  glos := t.glos
  frees := t.frees
  okf := fun f => Nat.blt f t.fds.length
  sups := t.sups
  okx := fun _ => false

/-! ### what the head tells -/
def dvOf : LV → He.Dv
  | .bl b => .bl b
  | .int i => .int i
  | .str s => .str (toStr s)
  | _ => .non
theorem dvOf_ok {T : Tab} {K : PySem.W.Frag} {ρ : Nat → Addr} {v : LV} (h : flat v = true) : (dvOf v).v K = vx T K ρ v := by
  cases v <;> first | rfl | cases h
theorem dvs_ok {T : Tab} {K : PySem.W.Frag} {ρ : Nat → Addr} {vs : List LV} (h : vs.all flat = true) : (vs.map dvOf).map (He.Dv.v K) = vs.map (vx T K ρ) := by
  rw [List.map_map]
  exact List.map_congr_left fun v hv => dvOf_ok (List.all_eq_true.mp h v hv)
def FD.def_ (d : FD) : He.DefD := ⟨d.F.at_, d.name, d.qual, d.params, d.body, d.scope, d.F.dfl.map dvOf, []⟩
def noLst (K : PySem.W.Frag) : Bool := K.all fun p => match p.2.cls with
  | .type n => !decide (n = "list")
  | _ => true
def tys (n : Nat) : List Ty := [.int, .bool, .str, .list, .tuple, .dict] ++ (List.range n).map .own
def vts (n : Nat) : List Vt := .non :: (tys n).map .ty
theorem vt_in {t : TL} {v : Vt} (h : vtOk t.pd v = true) : v ∈ vts t.cls.length := by
  cases v with
  | non => exact List.mem_cons_self
  | ty t' =>
    refine List.mem_cons_of_mem _ (List.mem_map_of_mem ?_)
    cases t' with
    | own c => exact List.mem_append_right _ (List.mem_map_of_mem (List.mem_range.mpr (Nat.le_of_ble_eq_true h)))
    | _ => exact List.mem_append_left _ (by decide)
theorem ty_in {t : TL} {v : Ty} (h : tyOk t.pd v = true) : v ∈ tys t.cls.length := by
  cases v with
  | own c => exact List.mem_append_right _ (List.mem_map_of_mem (List.mem_range.mpr (Nat.le_of_ble_eq_true h)))
  | _ => exact List.mem_append_left _ (by decide)
/-- a class of ours, as the head finds it -/
def clsB (t : TL) (K : PySem.W.Frag) (c : Nat) (i : CI) : Bool :=
  let x := t.pd.T.gn i.g
  (He.Fa.cls x).ok K && (t.fds.all fun f => (He.Fa.noat x f).ok K) &&
  (i.mths.all fun p => match t.fns[p.2]? with
    | some F => He.eqO (PySem.W.findIn K (.ref (He.ga K x)) (t.pd.T.mn p.1)) (some (some (.ref (He.fAd K F.at_)))) && PySem.W.isFn K (.ref (He.fAd K F.at_)) && PySem.W.keepIn K (.ref (He.fAd K F.at_))
    | none => false) &&
  (match i.ini with
    | none => true
    | some f => match t.fns[f]? with
      | some F => PySem.W.makesIn K (He.ga K x) && He.eqO (PySem.W.findIn K (.ref (He.ga K x)) "__init__") (some (some (.ref (He.fAd K F.at_)))) && PySem.W.isFn K (.ref (He.fAd K F.at_)) && PySem.W.keepIn K (.ref (He.ga K x))
      | none => false) &&
  (He.eqO (PySem.W.findIn K (.ref (He.ga K x)) "__class__") (some (some (.builtin "object.__class__"))) && He.eqO (PySem.W.specialIn K (.builtin "object.__class__") "__get__") (some (some (.builtin "getset_descriptor.__get__"))) &&
    decide (PySem.W.takesIn K (.builtin "object.__class__") = some true) && decide (PySem.W.mroIn K (He.ga K x) (.type "object") = some true))
def kB (t : TL) (K : PySem.W.Frag) : Bool :=
  noLst K && (t.glos.all fun x => (He.Fa.glo x).ok K) && (t.frees.all fun x => (He.Fa.free x).ok K) &&
  (t.gts.all fun p => p.2.all flat && He.tupB K (t.pd.T.gn p.1) (p.2.map dvOf)) &&
  (t.fns.all fun F => F.dfl.all flat && PySem.W.keepIn K (.ref (He.fAd K F.at_))) &&
  (t.sups.all fun q => match t.fns[q.2.2]? with
    | some F => PySem.W.readsIn K (He.ga K q.1) (.type "type") && He.eqO (PySem.W.specialIn K (.ref (He.ga K q.1)) "__getattribute__") (some (some (.builtin "type.__getattribute__"))) &&
      (match PySem.W.findCls K (.ref (He.ga K q.1)) (.type "type") q.2.1 with
        | some (.val v) => decide (v = .ref (He.fAd K F.at_))
        | _ => false)
    | none => false) &&
  (t.cls.zipIdx.all fun p => clsB t K p.2 p.1) &&
  ((vts t.cls.length).all fun v => (tys t.cls.length).all fun c => decide (PySem.W.kitOne K (vtU t.pd.T K v) (tyU t.pd.T K c) = some (vtSub t.pd.T v c)))
/-- what needs no heap -/
def TL.ok (t : TL) : Bool := decide t.fds.Nodup && noHd t.fds 35 && noHd t.fds 36 && noHd t.mns 35 && (t.fds.all fun x => !t.mns.contains x)
theorem lookup_mem {α β : Type} [BEq α] [LawfulBEq α] {x : α} {y : β} : ∀ {l : List (α × β)}, l.lookup x = some y → (x, y) ∈ l
  | (a, b) :: r, h => by
    rw [List.lookup_cons] at h
    cases c : x == a with
    | true => rw [c] at h; cases h; rw [eq_of_beq c]; exact List.mem_cons_self
    | false => rw [c] at h; exact List.mem_cons_of_mem _ (lookup_mem h)
theorem clsB_at {t : TL} {K : PySem.W.Frag} (h : kB t K = true) {c : Nat} {i : CI} (e : t.cls[c]? = some i) : clsB t K c i = true := by
  unfold kB at h
  simp only [Bool.and_eq_true] at h
  have := List.all_eq_true.mp h.1.2 (i, c) (List.mk_mem_zipIdx_iff_getElem?.mpr e)
  exact this
theorem okc_at {t : TL} {c : Nat} (h : t.pd.T.okc c = true) : ∃ i, t.cls[c]? = some i := ⟨_, List.getElem?_eq_getElem (Nat.le_of_ble_eq_true h)⟩
theorem pgS_of {t : TL} {K : PySem.W.Frag} {h : Heap} {mg : Str → Option Value} (X : K.In h) (G : h.Ns mainGlobals mg) (ht : t.ok = true) (hk : kB t K = true) : PgS t.pd K mg := by
  have hk' := hk
  unfold kB at hk'
  simp only [Bool.and_eq_true] at hk'
  obtain ⟨⟨⟨⟨⟨⟨⟨k1, k2⟩, k3⟩, k4⟩, k5⟩, k6⟩, k7⟩, k8⟩ := hk'
  unfold TL.ok at ht
  simp only [Bool.and_eq_true, decide_eq_true_eq] at ht
  obtain ⟨⟨⟨⟨t1, t2⟩, t3⟩, t4⟩, t5⟩ := ht
  have cl : ∀ {c : Nat}, t.pd.T.okc c = true → ∃ i, t.cls[c]? = some i ∧ clsB t K c i = true ∧ cad t.pd.T K c = He.ga K (t.pd.T.gn i.g) := fun {c} hc => by
    obtain ⟨i, e⟩ := okc_at hc
    refine ⟨i, e, clsB_at hk e, ?_⟩
    unfold cad
    have : t.pd.T.cg c = i.g := by show (match t.cls[c]? with | some i => i.g | none => 0) = i.g; rw [e]
    rw [this]
  refine { fnj := fun f g e => nmOf_inj t1 t2 e, fmn := fun f m => nmOf_ne (by decide) t3 t4 t5 f m, gt := fun i xs e => ?_, glo := fun x hx => ?_, free := fun x hx => ?_, dfl := fun f F e => ?_, fkp := fun f F e => ?_, sup := fun x m f hq => ?_, cls := fun c hc => ?_, noat := fun c f hc hf => ?_, meth := fun c m f hc e => ?_, made := fun c f hc e => ?_, isa := fun v c hv hc => ?_, ins := fun c hc => ?_ }
  · have := List.all_eq_true.mp k4 _ (lookup_mem e)
    simp only [Bool.and_eq_true] at this
    refine ⟨this.1, fun H => ?_⟩
    have z := He.tupB_ok this.2 H
    rw [dvs_ok this.1] at z
    exact z
  · exact He.glo_ok X G (List.all_eq_true.mp k2 x hx)
  · exact He.free_ok X G (List.all_eq_true.mp k3 x hx)
  · have := List.all_eq_true.mp k5 F (List.mem_of_getElem? e)
    rw [Bool.and_eq_true] at this
    exact this.1
  · have := List.all_eq_true.mp k5 F (List.mem_of_getElem? e)
    rw [Bool.and_eq_true] at this
    exact this.2
  · have := List.all_eq_true.mp k6 _ hq
    dsimp only at this
    cases e : t.fns[f]? with
    | none => rw [e] at this; cases this
    | some F =>
      rw [e] at this
      simp only [Bool.and_eq_true] at this
      obtain ⟨⟨a1, a2⟩, a3⟩ := this
      refine ⟨F, e, a1, He.eqO_ok a2, ?_⟩
      cases c : PySem.W.findCls K (.ref (He.ga K x)) (.type "type") m with
      | none => rw [c] at a3; cases a3
      | some r =>
        rw [c] at a3
        cases r with
        | val v => rw [of_decide_eq_true a3]
        | get _ _ _ _ => cases a3
  · obtain ⟨i, e, b, ea⟩ := cl hc
    unfold clsB at b
    simp only [Bool.and_eq_true] at b
    rw [ea]
    exact He.cls_ok b.1.1.1.1
  · obtain ⟨i, e, b, ea⟩ := cl hc
    unfold clsB at b
    simp only [Bool.and_eq_true] at b
    rw [ea]
    have hf' : f < t.fds.length := Nat.le_of_ble_eq_true hf
    have en : t.pd.T.fn f = t.fds[f] := by show nmOf t.fds 35 f = _; unfold nmOf; rw [List.getElem?_eq_getElem hf']
    rw [en]
    exact He.noat_ok (List.all_eq_true.mp b.1.1.1.2 _ (List.getElem_mem hf'))
  · obtain ⟨i, ec, b, ea⟩ := cl hc
    unfold clsB at b
    simp only [Bool.and_eq_true] at b
    have e' : i.mths.lookup m = some f := by
      have : (match t.cls[c]? with | some i => i.mths.lookup m | none => none) = some f := e
      rw [ec] at this
      exact this
    have z := List.all_eq_true.mp b.1.1.2 _ (lookup_mem e')
    dsimp only at z
    cases ef : t.fns[f]? with
    | none => rw [ef] at z; cases z
    | some F =>
      rw [ef] at z
      simp only [Bool.and_eq_true] at z
      rw [ea]
      exact ⟨F, ef, He.eqO_ok z.1.1, z.1.2, z.2⟩
  · obtain ⟨i, ec, b, ea⟩ := cl hc
    unfold clsB at b
    simp only [Bool.and_eq_true] at b
    have e' : i.ini = some f := by
      have : (match t.cls[c]? with | some i => i.ini | none => none) = some f := e
      rw [ec] at this
      exact this
    have z := b.1.2
    rw [e'] at z
    dsimp only at z
    cases ef : t.fns[f]? with
    | none => rw [ef] at z; cases z
    | some F =>
      rw [ef] at z
      simp only [Bool.and_eq_true] at z
      rw [ea]
      exact ⟨F, ef, z.1.1.1, He.eqO_ok z.1.1.2, z.1.2, z.2⟩
  · exact of_decide_eq_true (List.all_eq_true.mp (List.all_eq_true.mp k8 v (vt_in hv)) c (ty_in hc))
  · obtain ⟨i, ec, b, ea⟩ := cl hc
    unfold clsB at b
    simp only [Bool.and_eq_true] at b
    rw [ea]
    exact ⟨He.eqO_ok b.2.1.1.1, He.eqO_ok b.2.1.1.2, of_decide_eq_true b.2.1.2, of_decide_eq_true b.2.2⟩
theorem noLst_at {t : TL} {K : PySem.W.Frag} (h : kB t K = true) {H : Hp} {a : Addr} {xs : List V} (s : SqL K H a xs) : Rd H a (.lst xs) := by
  rcases s with s | ⟨o, its, n, e, c, _⟩
  · exact s
  · unfold kB at h
    simp only [Bool.and_eq_true] at h
    have z := List.all_eq_true.mp h.1.1.1.1.1.1.1 _ (lookup_mem e)
    dsimp only at z
    rw [c] at z
    simp at z

/-! ### the Hook -/
/-- the tables' facts, the defs' texts -/
def obsX (t : TL) (fn : List He.DefD) (K : PySem.W.Frag) : He.AlD := (kB t K && fn.all fun d => d.ok K, fn.map fun d => He.fnW K d.at_)
def SaysX (t : TL) (fn : List He.DefD) (K : PySem.W.Frag) : Prop := obsX t fn K = He.valD fn
def obsXG (n : Nat) (t : TL) (fn : List He.DefD) (g : Addr → Option Obj) : He.AlD := obsX t fn (He.frG g (cStatics :: He.asD g n))
def hookX (n : Nat) (t : TL) (fn : List He.DefD) : PySem.W.Hook where
  α := He.AlD
  obs := fun s => obsXG n t fn s.heap.get?
  val := fun _ => He.valD fn
  says := fun _ h => ∃ K : PySem.W.Frag, K.In h ∧ SaysX t fn K
  of := fun _ _ e => ⟨_, He.frG_in, e⟩
  keeps := fun _ _ _ ⟨K, hK, c⟩ k => ⟨K, PySem.W.Frag.In.keeps hK k, c⟩
theorem obsXG_eq {n : Nat} {t : TL} {fn : List He.DefD} {g : Addr → Option Obj} {s : Shared} (h : ∀ a, g a = s.heap.get? a) : obsXG n t fn g = (hookX n t fn).obs s := by
  have e : g = s.heap.get? := funext h
  rw [e] <;> rfl
section
variable {t : TL} {fn : List He.DefD} {K : PySem.W.Frag}
theorem SaysX.k (c : SaysX t fn K) : kB t K = true := (He.ba (show (kB t K && fn.all fun d => d.ok K) = true from congrArg (fun z : He.AlD => z.1) c)).1
theorem SaysX.def_ (c : SaysX t fn K) {i : Nat} {d : He.DefD} (h : fn[i]? = some d) : ∃ fd, FunD K d.name d.qual d.params d.body d.scope (d.dvs K) (d.kws K) (He.fAd K d.at_) fd := by
  have c2 := (He.ba (show (kB t K && fn.all fun d => d.ok K) = true from congrArg (fun z : He.AlD => z.1) c)).2
  have e : fn.map (fun d => He.fnW K d.at_) = fn.map He.DefD.val := congrArg (fun z : He.AlD => z.2) c
  have e2 : (fn.map fun d => He.fnW K d.at_)[i]? = (fn.map He.DefD.val)[i]? := by rw [e]
  rw [List.getElem?_map, List.getElem?_map, h] at e2
  exact He.DefD.funD (Option.some.inj e2) (List.all_eq_true.mp c2 d (List.mem_of_getElem? h))
end
end L3

/-! L3P: the law's end. -/
set_option autoImplicit false
set_option linter.all false
set_option maxRecDepth 100000
set_option maxHeartbeats 1000000
namespace L3
open PySem PyProof.Rows L2

/-- a def's translation holds good -/
structure FDok (t : TL) (nm : Nm) (d : FD) : Prop where
  sc : FnScope d.N d.F.ps d.scope
  tr : cFn t.pd nm d.N d.scope d.body = some d.is
  bi : ∀ K fd, FunD K d.name d.qual d.params d.body d.scope (d.F.dfl.map (vx t.pd.T K fun _ => 0)) [] (He.fAd K d.F.at_) fd → ∀ j, j ≤ d.F.dfl.length → ∃ ds, Vals ((d.F.dfl.drop j).map (vx t.pd.T K fun _ => 0)) ds ∧ Binds K fd d.F.ps ds
theorem CX_none {P : Program} {w : World} {outer : List Env} {H : Hp} {s : Shared} {e : Value} {s' : Shared} (h : L2.CX P w outer H s (fun _ _ _ => False) e s') : False := by
  obtain ⟨_, _, _, _, _, _, _, _, _, _, _, _, z⟩ := h
  exact z
theorem fnok0 {P : Program} {w : World} {K : PySem.W.Frag} {mg : Str → Option Value} {base : Heap} {k : Nat} {f : Addr} {fd : FuncData} {ps : List Str} {sp : Sp} (F : FnOk P w K mg base (L2.CX P w) k f fd ps sp) : FnOk P w K mg base CX0 k f fd ps (fun vs H Q _ => sp vs H Q fun _ _ _ => False) :=
  ⟨fun vs H Q _ q => F.len vs H Q _ q, fun A outer s H args us vs Q E hr he hb hv q => codeAny_mono (F.run A outer s H args us vs Q _ hr he hb hv q) fun r s' z => by
    cases r with
    | ok fl => cases fl <;> exact z
    | error e => exact (CX_none z).elim⟩
section
variable {P : Program} {w : World} {mg : Str → Option Value} {fa : Addr} {h : Heap}
theorem law_F {t : TL} {nm : Nm} {ds : List FD} {sp : Nat → Nat → Option (Spc Prop)} {gc : Nat → (St → LH → Prop) → St → LH → Prop} {n li : Nat} {dl : FD} {x : Str} {c0 : Nat}
    (Y : ∃ K : PySem.W.Frag, K.In h ∧ SaysX t (ds.map FD.def_) K) (G : h.Ns mainGlobals mg) (hmg : mg "law" = some (.ref fa))
    (ht : t.ok = true) (hf : t.fns = ds.map (·.F)) (hd : ∀ d ∈ ds, FDok t nm d) (hg : GcOk gc) (hs : SpOk t.pd.T (ds.map FD.fn) sp gc) (hl : ds[li]? = some dl) (ha : dl.F.at_ = (("law" : Str), none)) (hps : dl.F.ps = [x]) (hdf : dl.F.dfl = [])
    (hb : ∀ K fd, FunD K dl.name dl.qual dl.params dl.body dl.scope [] [] (He.fAd K dl.F.at_) fd → ∀ (s : Shared) (u : Value), BindsTo s fd ⟨[u], []⟩ [(x, u)]) (hgl : ("law" : Str) ∈ t.glos)
    (hlaw : ∀ ns : List Int, ns.length ≤ 63 → (callN t.pd.T (ds.map FD.fn) sp gc (n + 1)).call li [.ref 0] ⟨1, [.rol ns], c0⟩ (fun v _ => v = .bl true) (fun _ => False)) :
    ∃ (K : PySem.W.Frag) (fd : FuncData) (sp' : Sp), K.In h ∧ (∀ (s : Shared) (u : Value), BindsTo s fd ⟨[u], []⟩ [(x, u)]) ∧
      (∀ (H : Hp) (a : Addr) (ns : List Int), ns.length ≤ 63 → Only H → SqL K H a (ns.map V.int) → sp' [.ref a] H (fun v _ => v = .bl true) fun _ _ _ => False) ∧
      ∀ base : Heap, K.In base → base.Ns mainGlobals mg → FnOk P w K mg base CX0 (2 * n + 2) fa fd [x] sp' := by
  obtain ⟨K, KX, c⟩ := Y
  have S := pgS_of KX G ht c.k
  have hF : t.pd.fns[li]? = some dl.F := by
    show t.fns[li]? = _
    rw [hf, List.getElem?_map, hl]
    rfl
  have fun_ : ∀ {i : Nat} {d : FD}, ds[i]? = some d → ∃ fd, FunD K d.name d.qual d.params d.body d.scope (d.F.dfl.map (vx t.pd.T K fun _ => 0)) [] (He.fAd K d.F.at_) fd := fun {i d} e => by
    obtain ⟨fd, F⟩ := c.def_ (i := i) (d := d.def_) (by rw [List.getElem?_map, e]; rfl)
    refine ⟨fd, ?_⟩
    have e1 : d.def_.dvs K = d.F.dfl.map (vx t.pd.T K fun _ => 0) := dvs_ok (S.dfl i d.F (by show t.fns[i]? = _; rw [hf, List.getElem?_map, e]; rfl))
    rw [← e1]
    exact F
  have B : ∀ (f : Nat) (F : FnI), t.pd.fns[f]? = some F → ∃ fn : Fn, (ds.map FD.fn)[f]? = some fn ∧ FnB t.pd K F fn := fun f F e => by
    have e' : t.fns[f]? = some F := e
    rw [hf, List.getElem?_map] at e'
    cases q : ds[f]? with
    | none => rw [q] at e'; cases e'
    | some d =>
      rw [q] at e'
      cases e'
      obtain ⟨fd, FD'⟩ := fun_ q
      have ok := hd d (List.mem_of_getElem? q)
      exact ⟨d.fn, by rw [List.getElem?_map, q]; rfl, rfl, fd, _, _, _, _, _, _, FD', ok.sc, rfl, cFn_ok ok.tr, ok.bi K fd FD'⟩
  have efa : fa = He.fAd K dl.F.at_ := by
    have z := S.glo "law" hgl
    rw [hmg] at z
    rw [ha]
    exact Value.ref.inj (Option.some.inj z)
  obtain ⟨fd0, FD0⟩ := fun_ hl
  rw [hdf] at FD0
  refine ⟨K, fd0, fun vs H Q _ => spF t.pd.T K (callN t.pd.T (ds.map FD.fn) sp gc (n + 1)) li dl.F.ps.length vs H Q fun _ _ _ => False, KX, hb K fd0 FD0, fun H a ns hns hO hS => ?_, fun base hB hN => ?_⟩
  · have rd := noLst_at c.k hS
    have frz : ∃ ob, H a = some (.frz ob (.lst (ns.map .int))) := by
      rcases rd with e | ⟨o, e⟩
      · rcases hO a with z | ⟨o, xs, z⟩
        · rw [e] at z; cases z
        · rw [e] at z; cases z
      · exact ⟨o, e⟩
    refine ⟨fun _ => a, ⟨1, [.rol ns], c0⟩, [.ref 0], _, _, rfl, by rw [hps]; rfl, fun v hv => ?_, ⟨rfl, fun b o e => ?_, fun b b' h1 h2 _ => ?_⟩, hlaw ns hns, fun v h' e ρ' H' _ _ => ?_, fun o e => e.elim⟩
    · rw [List.mem_singleton.mp hv]; exact Nat.zero_lt_one
    · have hb' : b < 1 := get_lt e
      have : b = 0 := by omega
      subst this
      cases e
      obtain ⟨ob, e2⟩ := frz
      exact ⟨_, e2, ob, rfl⟩
    · have h1 : b < 1 := h1
      have h2 : b' < 1 := h2
      omega
    · rw [e]; rfl
  · have pg := pg_all (P := P) (w := w) (base := base) S B hg hs n
    have ok := hd dl (List.mem_of_getElem? hl)
    rw [efa, ← hps]
    exact fnok0 (fn_one (F := dl.F) (fn := dl.fn) pg hs (by rw [List.getElem?_map, hl]; rfl) FD0 ok.sc rfl (cFn_ok ok.tr))
end
end L3

set_option autoImplicit false
set_option linter.all false
set_option maxRecDepth 100000
set_option maxHeartbeats 4000000
namespace L3
theorem get_wc {h : LH} {c a : Nat} : (h.wc c).get a = h.get a := rfl
theorem put_wc {h : LH} {c : Nat} {o : LO} : (h.wc c).put o = (h.put o).wc c := rfl
theorem set_wc {h : LH} {c a : Nat} {o : LO} : (h.wc c).set a o = (h.set a o).wc c := rfl
theorem dat_wc {h : LH} {c : Nat} : ∀ (n : Nat) (v : LV), dat n (h.wc c) v = dat n h v
  | 0, v => by cases v <;> rfl
  | n + 1, v => by
    have ih : dat n (h.wc c) = dat n h := funext fun v => dat_wc n v
    cases v with
    | ref a =>
      show (match h.get a with
        | some (.lst xs) => (mapO (dat n (h.wc c)) xs).map D.lst
        | some (.tup xs) => (mapO (dat n (h.wc c)) xs).map D.tup
        | _ => none) = _
      rw [ih]
      rfl
    | _ => rfl
theorem eqLV_wc {h : LH} {c : Nat} {x y : LV} : eqLV (h.wc c) x y = eqLV h x y := by
  unfold eqLV
  cases x <;> cases y <;> first | rfl | (simp only [dat_wc])
def wz (c : Nat) (z : LV × LH) : LV × LH := (z.1, z.2.wc c)
theorem okn_wc {v : LV} {h : LH} {c : Nat} : okn v (h.wc c) = (okn v h).map (wz c) := rfl
theorem seqOf_wc {T : Tab} {h : LH} {c : Nat} {v : LV} : seqOf T (h.wc c) v = seqOf T h v := by cases v <;> rfl
theorem lenOf_wc {T : Tab} {h : LH} {c : Nat} {v : LV} : lenOf T (h.wc c) v = lenOf T h v := by cases v <;> rfl
theorem isOne_wc {T : Tab} {h : LH} {c : Nat} {v : LV} {ts : List Ty} : isOne T (h.wc c) v ts = isOne T h v ts := by cases v <;> rfl
theorem un_wc {T : Tab} {p : P} {x : LV} {h : LH} {c : Nat} : un T p x (h.wc c) = (un T p x h).map (wz c) := by
  unfold un
  cases p with
  | len => simp only [lenOf_wc]; cases lenOf T h x <;> rfl
  | list =>
    simp only [seqOf_wc]
    cases seqOf T h x with
    | none => rfl
    | some xs => dsimp only; cases fits xs.length <;> rfl
  | isi ts => simp only [isOne_wc]; cases isOne T h x ts <;> rfl
  | fld f =>
    cases x with
    | ref a =>
      simp only [get_wc]
      cases h.get a with
      | none => rfl
      | some o => cases o with
        | ins cl fs => dsimp only; cases getF f fs <;> rfl
        | _ => rfl
    | _ => rfl
  | _ => first | rfl | (cases x <;> rfl)
theorem bin_wc {T : Tab} {p : P} {x y : LV} {h : LH} {c : Nat} : bin T p x y (h.wc c) = (bin T p x y h).map (wz c) := by
  unfold bin
  cases p with
  | eq => simp only [eqLV_wc]; cases eqLV h x y <;> rfl
  | ne => simp only [eqLV_wc]; cases eqLV h x y <;> rfl
  | inn =>
    simp only [seqOf_wc]
    cases flat x with
    | false => rfl
    | true =>
      dsimp only [cond]
      cases seqOf T h y with
      | none => rfl
      | some ys => dsimp only; cases inL x ys <;> rfl
  | notin =>
    simp only [seqOf_wc]
    cases flat x with
    | false => rfl
    | true =>
      dsimp only [cond]
      cases seqOf T h y with
      | none => rfl
      | some ys => dsimp only; cases inL x ys <;> rfl
  | add =>
    cases x with
    | int i => cases y <;> rfl
    | str a =>
      cases y with
      | str b => dsimp only; cases fits (a.length + b.length) <;> rfl
      | _ => rfl
    | ref a =>
      cases y with
      | ref b =>
        simp only [get_wc]
        cases h.get a with
        | none => rfl
        | some o =>
          cases o with
          | lst xs =>
            cases h.get b with
            | none => rfl
            | some o2 =>
              cases o2 with
              | lst ys => dsimp only; cases fits (xs.length + ys.length) <;> rfl
              | _ => rfl
          | _ => cases h.get b <;> rfl
      | _ => rfl
    | _ => rfl
  | mul =>
    cases x with
    | int i =>
      cases y with
      | int j => dsimp only; cases (small i || small j) <;> rfl
      | _ => rfl
    | ref a =>
      cases y with
      | int k =>
        simp only [get_wc]
        cases h.get a with
        | none => rfl
        | some o =>
          cases o with
          | lst xs => dsimp only; cases (decide (0 ≤ k) && decide (k ≤ 1000) && fits (xs.length * k.toNat)) <;> rfl
          | _ => rfl
      | _ => rfl
    | _ => rfl
  | fdiv =>
    cases x <;> cases y <;> first | rfl | (dsimp only; rename_i i j; cases (decide (0 < j) && decide (j < 1073741824)) <;> rfl)
  | mod =>
    cases x <;> cases y <;> first | rfl | (dsimp only; rename_i i j; cases (decide (0 < j)) <;> rfl)
  | pow =>
    cases x <;> cases y <;> first | rfl | (dsimp only; rename_i i j; cases (decide (0 ≤ j) && decide (j ≤ 1000000) && Nat.blt i.natAbs (2 ^ 64)) <;> rfl)
  | ix =>
    cases y with
    | int i =>
      cases x with
      | str s =>
        dsimp only
        cases fits s.length with
        | false => rfl
        | true => dsimp only [cond]; cases atI s i <;> rfl
      | ref a =>
        simp only [get_wc, seqOf_wc]
        cases h.get a with
        | none => dsimp only; cases seqOf T h (.ref a) with
          | none => rfl
          | some xs => dsimp only; cases atI xs i <;> rfl
        | some o =>
          cases o with
          | dic kvs => dsimp only; cases getD (.int i) kvs <;> rfl
          | _ => dsimp only; cases seqOf T h (.ref a) with
            | none => rfl
            | some xs => dsimp only; cases atI xs i <;> rfl
      | gl g =>
        simp only [seqOf_wc]
        cases seqOf T h (.gl g) with
        | none => rfl
        | some xs => dsimp only; cases atI xs i <;> rfl
      | _ => rfl
    | str k =>
      cases x with
      | ref a =>
        simp only [get_wc]
        cases h.get a with
        | none => rfl
        | some o =>
          cases o with
          | dic kvs => dsimp only; cases getD (.str k) kvs <;> rfl
          | _ => rfl
      | _ => rfl
    | _ => cases x <;> rfl
  | append =>
    cases x with
    | ref a =>
      simp only [get_wc]
      cases h.get a with
      | none => rfl
      | some o =>
        cases o with
        | lst xs => dsimp only; cases fits xs.length <;> rfl
        | _ => rfl
    | _ => rfl
  | get1 =>
    cases x with
    | ref a =>
      simp only [get_wc]
      cases h.get a with
      | none => rfl
      | some o =>
        cases o with
        | dic kvs => dsimp only; cases keyOk y <;> rfl
        | _ => rfl
    | _ => rfl
  | _ => first | rfl | (cases x <;> first | rfl | (cases y <;> rfl))
theorem prim_wc {T : Tab} {p : P} {vs : List LV} {h : LH} {c : Nat} : prim T p vs (h.wc c) = (prim T p vs h).map (wz c) := by
  have gen : ∀ {q : P}, (match vs with
    | [x] => un T q x (h.wc c)
    | [x, y] => bin T q x y (h.wc c)
    | _ => none) = (match vs with
    | [x] => un T q x h
    | [x, y] => bin T q x y h
    | _ => none).map (wz c) := fun {q} => by
      match vs with
      | [] => rfl
      | [x] => exact un_wc
      | [x, y] => exact bin_wc
      | _ :: _ :: _ :: _ => rfl
  unfold prim
  cases p with
  | tup => dsimp only; cases fits vs.length <;> rfl
  | lst => dsimp only; cases fits vs.length <;> rfl
  | dct =>
    dsimp only
    cases Nat.ble vs.length 30 with
    | false => rfl
    | true => dsimp only [cond]; cases mkD vs [] <;> rfl
  | get2 =>
    dsimp only
    match vs with
    | [] => rfl
    | [_] => cases ‹LV› <;> rfl
    | [a, _] => cases a <;> rfl
    | [.ref a, k, d] =>
      simp only [get_wc]
      cases h.get a with
      | none => rfl
      | some o =>
        cases o with
        | dic kvs => dsimp only; cases keyOk k <;> rfl
        | _ => rfl
    | [.non, _, _] => rfl
    | [.bl _, _, _] => rfl
    | [.int _, _, _] => rfl
    | [.str _, _, _] => rfl
    | [.gl _, _, _] => rfl
    | a :: _ :: _ :: _ :: _ => cases a <;> rfl
  | _ => exact gen
end L3

/-! L3Q: what the evaluator answers as a Bool holds as a Prop. -/
set_option autoImplicit false
set_option linter.all false
set_option maxRecDepth 100000
set_option maxHeartbeats 1000000
namespace L3
open PySem PyProof.Rows L2

def XO.wc (c : Nat) : XO → XO
  | .exc k d h => .exc k d (h.wc c)
  | .bad => .bad
def SO.wc (c : Nat) : SO → SO
  | .nxt σ h => .nxt σ (h.wc c)
  | .brk σ h => .brk σ (h.wc c)
  | .cnt σ h => .cnt σ (h.wc c)
  | .ret v h => .ret v (h.wc c)
  | .exc k d σ h => .exc k d σ (h.wc c)
  | .bad => .bad
/-- what answers with a number of draws holds where so many, and X, may still be made -/
abbrev KR {α : Type} (X : Nat) (k : α → LH → Option Nat) (k' : α → LH → Prop) : Prop := ∀ v h d, k v h = some d → ∀ c, d + X ≤ c → k' v (h.wc c)
abbrev XR (X : Nat) (x : XO → Option Nat) (x' : XO → Prop) : Prop := ∀ o d, x o = some d → ∀ c, d + X ≤ c → x' (o.wc c)
abbrev SR (X : Nat) (k : SO → Option Nat) (k' : SO → Prop) : Prop := ∀ o d, k o = some d → ∀ c, d + X ≤ c → k' (o.wc c)
structure HRel (X : Nat) (D1 : Hd (Option Nat)) (D2 : Hd Prop) : Prop where
  T : D1.T = D2.T
  call : ∀ f vs h k x k' x' d, KR X k k' → XR X x x' → D1.call f vs h k x = some d → ∀ c, d + X ≤ c → D2.call f vs (h.wc c) k' x'
  gc : ∀ b kk kk' s h d, KR X kk kk' → D1.gc b kk s h = some d → ∀ c, d + X ≤ c → D2.gc b kk' s (h.wc c)
theorem n_wc {h : LH} {c : Nat} : (h.wc c).n = h.n := rfl
theorem seqL_wc {h : LH} {c : Nat} {v : LV} : seqL (h.wc c) v = seqL h v := by cases v <;> rfl
theorem seqT_wc {T : Tab} {h : LH} {c : Nat} {v : LV} : seqT T (h.wc c) v = seqT T h v := by cases v <;> rfl
theorem isBk_wc {h : LH} {c : Nat} {b : Bk} {v : LV} : isBk (h.wc c) b v = isBk h b v := by cases v <;> rfl
def TR.wc (c : Nat) : TR → TR
  | .next v h => .next v (h.wc c)
  | .stop => .stop
  | .bad => .bad
theorem turn_wc {T : Tab} {it : IT} {i : Nat} {h : LH} {c : Nat} : turn T it i (h.wc c) = (turn T it i h).wc c := by
  cases it with
  | rng lo n =>
    show (bif Nat.blt i n then TR.next (.int (lo + i)) (h.wc c) else .stop) = TR.wc c (bif Nat.blt i n then TR.next (.int (lo + i)) h else .stop)
    cases Nat.blt i n <;> rfl
  | seq v l =>
    unfold turn
    simp only [seqL_wc, seqT_wc]
    cases (bif l then seqL h v else seqT T h v) with
    | none => rfl
    | some xs => dsimp only; cases xs[i]? <;> rfl
theorem bound_wc {T : Tab} {it : IT} {h : LH} {c : Nat} : bound T it (h.wc c) = bound T it h := by
  cases it with
  | rng lo n => rfl
  | seq v l => unfold bound; simp only [seqL_wc, seqT_wc]
section
variable {X : Nat} {D1 : Hd (Option Nat)} {D2 : Hd Prop} (R : HRel X D1 D2)
include R
theorem rel_lc {it : IT} {a : Nat} {σ0 : St} {g1 : LV → St → LH → (St → LH → Option Nat) → (XO → Option Nat) → Option Nat} {g2 : LV → St → LH → (St → LH → Prop) → (XO → Prop) → Prop} {t1 e1 : St → LH → (LV → LH → Option Nat) → (XO → Option Nat) → Option Nat} {t2 e2 : St → LH → (LV → LH → Prop) → (XO → Prop) → Prop}
    (hg : ∀ v σ h k x k' x' d, KR X k k' → XR X x x' → g1 v σ h k x = some d → ∀ c, d + X ≤ c → g2 v σ (h.wc c) k' x') (ht : ∀ σ h k x k' x' d, KR X k k' → XR X x x' → t1 σ h k x = some d → ∀ c, d + X ≤ c → t2 σ (h.wc c) k' x') (he : ∀ σ h k x k' x' d, KR X k k' → XR X x x' → e1 σ h k x = some d → ∀ c, d + X ≤ c → e2 σ (h.wc c) k' x') :
    ∀ (m i : Nat) (h : LH) (k : LV → LH → Option Nat) (x : XO → Option Nat) (k' : LV → LH → Prop) (x' : XO → Prop) (d : Nat), KR X k k' → XR X x x' → lcR D1 it a σ0 g1 t1 e1 m i h k x = some d → ∀ c, d + X ≤ c → lcR D2 it a σ0 g2 t2 e2 m i (h.wc c) k' x' := by
  intro m
  induction m with
  | zero =>
    intro i h k x k' x' dd kr xr q cc ll
    unfold lcR at q ⊢
    rw [← R.T, turn_wc]
    cases c : turn D1.T it i h with
    | stop => rw [c] at q; exact kr _ _ _ q _ ll
    | bad => rw [c] at q; exact xr _ _ q _ ll
    | next v h1 => rw [c] at q; exact xr _ _ q _ ll
  | succ m ih =>
    intro i h k x k' x' dd kr xr q cc ll
    unfold lcR at q ⊢
    rw [← R.T, turn_wc]
    cases c : turn D1.T it i h with
    | stop => rw [c] at q; exact kr _ _ _ q _ ll
    | bad => rw [c] at q; exact xr _ _ q _ ll
    | next v h1 =>
      rw [c] at q
      refine hg _ _ _ _ _ _ _ _ (fun σ2 h2 dd2 q2 cc2 ll2 => ht _ _ _ _ _ _ _ (fun b h3 dd3 q3 cc3 ll3 => ?_) xr q2 _ ll2) xr q _ ll
      cases b with
      | bl b =>
        cases b with
        | false => exact ih _ _ _ _ _ _ _ kr xr q3 _ ll3
        | true =>
          refine he _ _ _ _ _ _ _ (fun y h4 dd4 q4 cc4 ll4 => ?_) xr q3 _ ll3
          try dsimp only at q4 ⊢
          simp only [get_wc, put_wc, set_wc]
          cases c4 : h4.get a with
          | none => rw [c4] at q4; exact xr _ _ q4 _ ll4
          | some o =>
            rw [c4] at q4
            cases o with
            | lst acc =>
              try dsimp only at q4 ⊢
              cases f : fits acc.length with
              | false => rw [f] at q4; exact xr _ _ q4 _ ll4
              | true => rw [f] at q4; exact ih _ _ _ _ _ _ _ kr xr q4 _ ll4
            | _ => exact xr _ _ q4 _ ll4
      | _ => exact xr _ _ q3 _ ll3
mutual
theorem relE : ∀ (e : IE) (σ : St) (h : LH) (k : LV → LH → Option Nat) (x : XO → Option Nat) (k' : LV → LH → Prop) (x' : XO → Prop) (d : Nat), KR X k k' → XR X x x' → rE D1 e σ h k x = some d → ∀ c, d + X ≤ c → rE D2 e σ (h.wc c) k' x'
  | .var i, σ, h, k, x, k', x', dd, kr, xr, q, cc, ll => by
    simp only [rE] at q ⊢
    cases c : σ[i]? with
    | none => rw [c] at q; exact xr _ _ q _ ll
    | some o =>
      rw [c] at q
      cases o with
      | none => exact xr _ _ q _ ll
      | some v => exact kr _ _ _ q _ ll
  | .con v, σ, h, k, x, k', x', dd, kr, xr, q, cc, ll => by
    simp only [rE] at q ⊢
    exact kr _ _ _ q _ ll
  | .prim p as, σ, h, k, x, k', x', dd, kr, xr, q, cc, ll => by
    simp only [rE] at q ⊢
    refine relEs as _ _ _ _ _ _ _ (fun vs h1 dd1 q1 cc1 ll1 => ?_) xr q _ ll
    try dsimp only at q1 ⊢
    rw [← R.T, prim_wc]
    cases c : prim D1.T p vs h1 with
    | none => rw [c] at q1; exact xr _ _ q1 _ ll1
    | some z => rw [c] at q1; exact kr _ _ _ q1 _ ll1
  | .and a b, σ, h, k, x, k', x', dd, kr, xr, q, cc, ll => by
    simp only [rE] at q ⊢
    refine relE a _ _ _ _ _ _ _ (fun v h1 dd1 q1 cc1 ll1 => ?_) xr q _ ll
    cases v with
    | bl c =>
      cases c with
      | true => exact relE b _ _ _ _ _ _ _ kr xr q1 _ ll1
      | false => exact kr _ _ _ q1 _ ll1
    | _ => exact xr _ _ q1 _ ll1
  | .or a b, σ, h, k, x, k', x', dd, kr, xr, q, cc, ll => by
    simp only [rE] at q ⊢
    refine relE a _ _ _ _ _ _ _ (fun v h1 dd1 q1 cc1 ll1 => ?_) xr q _ ll
    cases v with
    | bl c =>
      cases c with
      | true => exact kr _ _ _ q1 _ ll1
      | false => exact relE b _ _ _ _ _ _ _ kr xr q1 _ ll1
    | _ => exact xr _ _ q1 _ ll1
  | .ife t a b, σ, h, k, x, k', x', dd, kr, xr, q, cc, ll => by
    simp only [rE] at q ⊢
    refine relE t _ _ _ _ _ _ _ (fun v h1 dd1 q1 cc1 ll1 => ?_) xr q _ ll
    cases v with
    | bl c =>
      cases c with
      | true => exact relE a _ _ _ _ _ _ _ kr xr q1 _ ll1
      | false => exact relE b _ _ _ _ _ _ _ kr xr q1 _ ll1
    | _ => exact xr _ _ q1 _ ll1
  | .chain p p' a b c, σ, h, k, x, k', x', dd, kr, xr, q, cc, ll => by
    simp only [rE] at q ⊢
    refine relE a _ _ _ _ _ _ _ (fun u h1 dd1 q1 cc1 ll1 => relE b _ _ _ _ _ _ _ (fun v h2 dd2 q2 cc2 ll2 => ?_) xr q1 _ ll1) xr q _ ll
    try dsimp only at q2 ⊢
    rw [← R.T, bin_wc]
    cases e : bin D1.T p u v h2 with
    | none => rw [e] at q2; exact xr _ _ q2 _ ll2
    | some z =>
      obtain ⟨z, h3⟩ := z
      rw [e] at q2
      cases z with
      | bl d =>
        cases d with
        | false => exact kr _ _ _ q2 _ ll2
        | true =>
          refine relE c _ _ _ _ _ _ _ (fun w h4 dd4 q4 cc4 ll4 => ?_) xr q2 _ ll2
          try dsimp only at q4 ⊢
          rw [bin_wc]
          cases e4 : bin D1.T p' v w h4 with
          | none => rw [e4] at q4; exact xr _ _ q4 _ ll4
          | some z => rw [e4] at q4; exact kr _ _ _ q4 _ ll4
      | _ => exact xr _ _ q2 _ ll2
  | .call f as d, σ, h, k, x, k', x', dd, kr, xr, q, cc, ll => by
    simp only [rE] at q ⊢
    exact relEs as _ _ _ _ _ _ _ (fun vs h1 dd1 q1 cc1 ll1 => R.call _ _ _ _ _ _ _ _ kr xr q1 _ ll1) xr q _ ll
  | .meth m o as, σ, h, k, x, k', x', dd, kr, xr, q, cc, ll => by
    simp only [rE] at q ⊢
    refine relE o _ _ _ _ _ _ _ (fun v h1 dd1 q1 cc1 ll1 => ?_) xr q _ ll
    rw [← R.T]
    cases v with
    | ref a =>
      try dsimp only at q1 ⊢
      simp only [get_wc, put_wc, set_wc]
      cases c : h1.get a with
      | none => rw [c] at q1; exact xr _ _ q1 _ ll1
      | some ob =>
        rw [c] at q1
        cases ob with
        | ins cl fs =>
          try dsimp only at q1 ⊢
          cases e : D1.T.mth cl m with
          | none => rw [e] at q1; exact xr _ _ q1 _ ll1
          | some f => rw [e] at q1; exact relEs as _ _ _ _ _ _ _ (fun vs h1 dd1 q1 cc1 ll1 => R.call _ _ _ _ _ _ _ _ kr xr q1 _ ll1) xr q1 _ ll1
        | _ => exact xr _ _ q1 _ ll1
    | _ => exact xr _ _ q1 _ ll1
  | .bmeth b p o as, σ, h, k, x, k', x', dd, kr, xr, q, cc, ll => by
    simp only [rE] at q ⊢
    refine relE o _ _ _ _ _ _ _ (fun v h1 dd1 q1 cc1 ll1 => ?_) xr q _ ll
    try dsimp only at q1 ⊢
    rw [isBk_wc]
    cases c : isBk h1 b v with
    | false => rw [c] at q1; exact xr _ _ q1 _ ll1
    | true =>
      rw [c] at q1
      refine relEs as _ _ _ _ _ _ _ (fun vs h2 dd2 q2 cc2 ll2 => ?_) xr q1 _ ll1
      try dsimp only at q2 ⊢
      rw [← R.T, prim_wc]
      cases e : prim D1.T p (v :: vs) h2 with
      | none => rw [e] at q2; exact xr _ _ q2 _ ll2
      | some z => rw [e] at q2; exact kr _ _ _ q2 _ ll2
  | .make c as d, σ, h, k, x, k', x', dd, kr, xr, q, cc, ll => by
    simp only [rE] at q ⊢
    refine relEs as _ _ _ _ _ _ _ (fun vs h1 dd1 q1 cc1 ll1 => ?_) xr q _ ll
    try dsimp only at q1 ⊢
    rw [← R.T]
    cases e : D1.T.ini c with
    | none => rw [e] at q1; exact xr _ _ q1 _ ll1
    | some f =>
      rw [e] at q1
      refine R.call _ _ _ _ _ _ _ _ (fun v h2 dd2 q2 cc2 ll2 => ?_) xr q1 _ ll1
      cases v with
      | non => exact kr _ _ _ q2 _ ll2
      | _ => exact xr _ _ q2 _ ll2
  | .comp own g it t elt, σ, h, k, x, k', x', dd, kr, xr, q, cc, ll => by
    simp only [rE] at q ⊢
    refine relI it _ _ _ _ _ _ _ (fun j h1 dd1 q1 cc1 ll1 => ?_) xr q _ ll
    rw [← R.T]
    exact rel_lc R (fun v σ h k x k' x' d => relG g v σ h k x k' x' d) (fun σ h k x k' x' d => relE t σ h k x k' x' d) (fun σ h k x k' x' d => relE elt σ h k x k' x' d) _ _ _ _ _ _ _ _ kr (fun _ => xr .bad) q1 _ ll1
  | .exf f, σ, h, k, x, k', x', dd, kr, xr, q, cc, ll => by
    simp only [rE] at q ⊢
    exact xr _ _ q _ ll
  | .bad, σ, h, k, x, k', x', dd, kr, xr, q, cc, ll => by
    simp only [rE] at q ⊢
    exact xr _ _ q _ ll
theorem relEs : ∀ (e : IEs) (σ : St) (h : LH) (k : List LV → LH → Option Nat) (x : XO → Option Nat) (k' : List LV → LH → Prop) (x' : XO → Prop) (d : Nat), KR X k k' → XR X x x' → rEs D1 e σ h k x = some d → ∀ c, d + X ≤ c → rEs D2 e σ (h.wc c) k' x'
  | .nil, σ, h, k, x, k', x', dd, kr, xr, q, cc, ll => by
    simp only [rEs] at q ⊢
    exact kr _ _ _ q _ ll
  | .cons e es, σ, h, k, x, k', x', dd, kr, xr, q, cc, ll => by
    simp only [rEs] at q ⊢
    refine relE e _ _ _ _ _ _ _ (fun v h1 dd1 q1 cc1 ll1 => ?_) xr q _ ll
    exact relEs es σ h1 (fun vs h2 => k (v :: vs) h2) x (fun vs h2 => k' (v :: vs) h2) x' _ (fun vs h2 dd2 q2 cc2 ll2 => kr _ _ _ q2 _ ll2) xr q1 _ ll1
theorem relI : ∀ (e : II) (σ : St) (h : LH) (k : IT → LH → Option Nat) (x : XO → Option Nat) (k' : IT → LH → Prop) (x' : XO → Prop) (d : Nat), KR X k k' → XR X x x' → rI D1 e σ h k x = some d → ∀ c, d + X ≤ c → rI D2 e σ (h.wc c) k' x'
  | .seq e, σ, h, k, x, k', x', dd, kr, xr, q, cc, ll => by
    simp only [rI] at q ⊢
    refine relE e _ _ _ _ _ _ _ (fun v h1 dd1 q1 cc1 ll1 => ?_) xr q _ ll
    try dsimp only at q1 ⊢
    rw [← R.T]
    rw [seqL_wc, seqT_wc]
    cases c : seqL h1 v with
    | some xs => rw [c] at q1; exact kr _ _ _ q1 _ ll1
    | none =>
      rw [c] at q1
      cases c2 : seqT D1.T h1 v with
      | some xs => rw [c2] at q1; exact kr _ _ _ q1 _ ll1
      | none => rw [c2] at q1; exact xr _ _ q1 _ ll1
  | .rng1 a, σ, h, k, x, k', x', dd, kr, xr, q, cc, ll => by
    simp only [rI] at q ⊢
    refine relE a _ _ _ _ _ _ _ (fun v h1 dd1 q1 cc1 ll1 => ?_) xr q _ ll
    cases v with
    | int j =>
      try dsimp only at q1 ⊢
      cases c : (decide (-(2 ^ 62) ≤ j) && decide (j < 2 ^ 62)) with
      | true => rw [c] at q1; exact kr _ _ _ q1 _ ll1
      | false => rw [c] at q1; exact xr _ _ q1 _ ll1
    | _ => exact xr _ _ q1 _ ll1
  | .rng2 a b, σ, h, k, x, k', x', dd, kr, xr, q, cc, ll => by
    simp only [rI] at q ⊢
    refine relE a _ _ _ _ _ _ _ (fun v h1 dd1 q1 cc1 ll1 => relE b _ _ _ _ _ _ _ (fun w h2 dd2 q2 cc2 ll2 => ?_) xr q1 _ ll1) xr q _ ll
    cases v with
    | int i =>
      cases w with
      | int j =>
        try dsimp only at q2 ⊢
        cases c : ((decide (-(2 ^ 62) ≤ i) && decide (i < 2 ^ 62)) && (decide (-(2 ^ 62) ≤ j) && decide (j < 2 ^ 62))) with
        | true => rw [c] at q2; exact kr _ _ _ q2 _ ll2
        | false => rw [c] at q2; exact xr _ _ q2 _ ll2
      | _ => exact xr _ _ q2 _ ll2
    | _ => exact xr _ _ q2 _ ll2
  | .enum e, σ, h, k, x, k', x', dd, kr, xr, q, cc, ll => by
    simp only [rI] at q ⊢
    exact xr _ _ q _ ll
  | .zip a b, σ, h, k, x, k', x', dd, kr, xr, q, cc, ll => by
    simp only [rI] at q ⊢
    exact xr _ _ q _ ll
theorem relG : ∀ (g : IG) (v : LV) (σ : St) (h : LH) (k : St → LH → Option Nat) (x : XO → Option Nat) (k' : St → LH → Prop) (x' : XO → Prop) (d : Nat), KR X k k' → XR X x x' → rG D1 g v σ h k x = some d → ∀ c, d + X ≤ c → rG D2 g v σ (h.wc c) k' x'
  | .name i, v, σ, h, k, x, k', x', dd, kr, xr, q, cc, ll => by
    simp only [rG] at q ⊢
    exact kr _ _ _ q _ ll
  | .drop i, v, σ, h, k, x, k', x', dd, kr, xr, q, cc, ll => by
    simp only [rG] at q ⊢
    exact kr _ _ _ q _ ll
  | .tup gs, v, σ, h, k, x, k', x', dd, kr, xr, q, cc, ll => by
    simp only [rG] at q ⊢
    cases v with
    | ref a =>
      try dsimp only at q ⊢
      simp only [get_wc, put_wc, set_wc]
      cases c : h.get a with
      | none => rw [c] at q; exact xr _ _ q _ ll
      | some ob =>
        rw [c] at q
        cases ob with
        | tup vs =>
          try dsimp only at q ⊢
          cases l : Nat.beq vs.length gs.len with
          | false => rw [l] at q; exact xr _ _ q _ ll
          | true => rw [l] at q; exact relGs gs _ _ _ _ _ _ _ _ kr xr q _ ll
        | _ => exact xr _ _ q _ ll
    | _ => exact xr _ _ q _ ll
  | .sub o i, v, σ, h, k, x, k', x', dd, kr, xr, q, cc, ll => by
    simp only [rG] at q ⊢
    refine relE o _ _ _ _ _ _ _ (fun u h1 dd1 q1 cc1 ll1 => relE i _ _ _ _ _ _ _ (fun w h2 dd2 q2 cc2 ll2 => ?_) xr q1 _ ll1) xr q _ ll
    cases u with
    | ref a =>
      try dsimp only at q2 ⊢
      simp only [get_wc, put_wc, set_wc]
      cases c : h2.get a with
      | none => rw [c] at q2; exact xr _ _ q2 _ ll2
      | some ob =>
        rw [c] at q2
        cases ob with
        | lst xs =>
          cases w with
          | int j =>
            try dsimp only at q2 ⊢
            cases n : ixN xs.length j with
            | none => rw [n] at q2; exact xr _ _ q2 _ ll2
            | some n' => rw [n] at q2; exact kr _ _ _ q2 _ ll2
          | _ => exact xr _ _ q2 _ ll2
        | dic kvs =>
          try dsimp only at q2 ⊢
          cases n : (keyOk w && fits kvs.length) with
          | false => rw [n] at q2; exact xr _ _ q2 _ ll2
          | true => rw [n] at q2; exact kr _ _ _ q2 _ ll2
        | _ => exact xr _ _ q2 _ ll2
    | _ => exact xr _ _ q2 _ ll2
  | .fld o f, v, σ, h, k, x, k', x', dd, kr, xr, q, cc, ll => by
    simp only [rG] at q ⊢
    refine relE o _ _ _ _ _ _ _ (fun u h1 dd1 q1 cc1 ll1 => ?_) xr q _ ll
    cases u with
    | ref a =>
      try dsimp only at q1 ⊢
      simp only [get_wc, put_wc, set_wc]
      cases c : h1.get a with
      | none => rw [c] at q1; exact xr _ _ q1 _ ll1
      | some ob =>
        rw [c] at q1
        cases ob with
        | ins cl fs =>
          try dsimp only at q1 ⊢
          cases n : Nat.blt fs.length 900 with
          | false => rw [n] at q1; exact xr _ _ q1 _ ll1
          | true => rw [n] at q1; exact kr _ _ _ q1 _ ll1
        | _ => exact xr _ _ q1 _ ll1
    | _ => exact xr _ _ q1 _ ll1
theorem relGs : ∀ (g : IGs) (vs : List LV) (σ : St) (h : LH) (k : St → LH → Option Nat) (x : XO → Option Nat) (k' : St → LH → Prop) (x' : XO → Prop) (d : Nat), KR X k k' → XR X x x' → rGs D1 g vs σ h k x = some d → ∀ c, d + X ≤ c → rGs D2 g vs σ (h.wc c) k' x'
  | .nil, vs, σ, h, k, x, k', x', dd, kr, xr, q, cc, ll => by
    simp only [rGs] at q ⊢
    cases vs with
    | nil => exact kr _ _ _ q _ ll
    | cons _ _ => exact xr _ _ q _ ll
  | .cons g gs, vs, σ, h, k, x, k', x', dd, kr, xr, q, cc, ll => by
    simp only [rGs] at q ⊢
    cases vs with
    | nil => exact xr _ _ q _ ll
    | cons v r => exact relG g _ _ _ _ _ _ _ _ (fun σ1 h1 dd1 q1 cc1 ll1 => relGs gs _ _ _ _ _ _ _ _ kr xr q1 _ ll1) xr q _ ll
end
omit R in
theorem SR.xs {k : SO → Option Nat} {k' : SO → Prop} (sr : SR X k k') (σ : St) : XR X (L3.xs σ k) (L3.xs σ k') := fun o dd q cc ll => by
  cases o with
  | exc c d h => exact sr _ _ q _ ll
  | bad => exact sr _ _ q _ ll
theorem rel_for {dead : List Nat} {it : IT} {b : Nat} {g1 : LV → St → LH → (St → LH → Option Nat) → (XO → Option Nat) → Option Nat} {g2 : LV → St → LH → (St → LH → Prop) → (XO → Prop) → Prop} {b1 : St → LH → (SO → Option Nat) → Option Nat} {b2 : St → LH → (SO → Prop) → Prop}
    (hg : ∀ v σ h k x k' x' d, KR X k k' → XR X x x' → g1 v σ h k x = some d → ∀ c, d + X ≤ c → g2 v σ (h.wc c) k' x') (hb : ∀ σ h k k' d, SR X k k' → b1 σ h k = some d → ∀ c, d + X ≤ c → b2 σ (h.wc c) k') :
    ∀ (m i : Nat) (σ : St) (h : LH) (k : SO → Option Nat) (k' : SO → Prop) (d : Nat), SR X k k' → forR D1 dead it b g1 b1 m i σ h k = some d → ∀ c, d + X ≤ c → forR D2 dead it b g2 b2 m i σ (h.wc c) k' := by
  intro m
  induction m with
  | zero =>
    intro i σ h k k' dd sr q cc ll
    unfold forR at q ⊢
    rw [← R.T, turn_wc]
    cases c : turn D1.T it i h with
    | stop => rw [c] at q; exact sr _ _ q _ ll
    | bad => rw [c] at q; exact sr _ _ q _ ll
    | next v h1 => rw [c] at q; exact sr _ _ q _ ll
  | succ m ih =>
    intro i σ h k k' dd sr q cc ll
    unfold forR at q ⊢
    rw [← R.T, turn_wc]
    cases c : turn D1.T it i h with
    | stop => rw [c] at q; exact sr _ _ q _ ll
    | bad => rw [c] at q; exact sr _ _ q _ ll
    | next v h1 =>
      rw [c] at q
      refine hg _ _ _ _ _ _ _ _ (fun σ2 h2 dd2 q2 cc2 ll2 => hb _ _ _ _ _ (fun o dd3 q3 cc3 ll3 => ?_) q2 _ ll2) (fun o dd3 q3 cc3 ll3 => ?_) q _ ll
      · cases o with
        | nxt σ3 h3 => exact R.gc _ _ _ _ _ _ (fun s h dd4 q4 cc4 ll4 => ih _ _ _ _ _ _ sr q4 _ ll4) q3 _ ll3
        | cnt σ3 h3 => exact R.gc _ _ _ _ _ _ (fun s h dd4 q4 cc4 ll4 => ih _ _ _ _ _ _ sr q4 _ ll4) q3 _ ll3
        | brk σ3 h3 => exact sr _ _ q3 _ ll3
        | ret v h => exact sr _ _ q3 _ ll3
        | exc c d s h => exact sr _ _ q3 _ ll3
        | bad => exact sr _ _ q3 _ ll3
      · cases o with
        | exc c d h' => exact sr _ _ q3 _ ll3
        | bad => exact sr _ _ q3 _ ll3
theorem rel_whl {dead : List Nat} {b : Nat} {t1 : St → LH → (LV → LH → Option Nat) → (XO → Option Nat) → Option Nat} {t2 : St → LH → (LV → LH → Prop) → (XO → Prop) → Prop} {b1 : St → LH → (SO → Option Nat) → Option Nat} {b2 : St → LH → (SO → Prop) → Prop}
    (ht : ∀ σ h k x k' x' d, KR X k k' → XR X x x' → t1 σ h k x = some d → ∀ c, d + X ≤ c → t2 σ (h.wc c) k' x') (hb : ∀ σ h k k' d, SR X k k' → b1 σ h k = some d → ∀ c, d + X ≤ c → b2 σ (h.wc c) k') :
    ∀ (m : Nat) (σ : St) (h : LH) (k : SO → Option Nat) (k' : SO → Prop) (d : Nat), SR X k k' → whlR D1 dead b t1 b1 m σ h k = some d → ∀ c, d + X ≤ c → whlR D2 dead b t2 b2 m σ (h.wc c) k' := by
  intro m
  induction m with
  | zero =>
    intro σ h k k' dd sr q cc ll
    unfold whlR at q ⊢
    refine ht _ _ _ _ _ _ _ (fun v h1 dd1 q1 cc1 ll1 => ?_) (fun o dd3 q3 cc3 ll3 => ?_) q _ ll
    · cases v with
      | bl c => cases c <;> exact sr _ _ q1 _ ll1
      | _ => exact sr _ _ q1 _ ll1
    · cases o with
      | exc c d h' => exact sr _ _ q3 _ ll3
      | bad => exact sr _ _ q3 _ ll3
  | succ m ih =>
    intro σ h k k' dd sr q cc ll
    unfold whlR at q ⊢
    refine ht _ _ _ _ _ _ _ (fun v h1 dd1 q1 cc1 ll1 => ?_) (fun o dd3 q3 cc3 ll3 => ?_) q _ ll
    · cases v with
      | bl c =>
        cases c with
        | false => exact sr _ _ q1 _ ll1
        | true =>
          refine hb _ _ _ _ _ (fun o dd3 q3 cc3 ll3 => ?_) q1 _ ll1
          cases o with
          | nxt σ3 h3 => exact R.gc _ _ _ _ _ _ (fun s h dd4 q4 cc4 ll4 => ih _ _ _ _ _ sr q4 _ ll4) q3 _ ll3
          | cnt σ3 h3 => exact R.gc _ _ _ _ _ _ (fun s h dd4 q4 cc4 ll4 => ih _ _ _ _ _ sr q4 _ ll4) q3 _ ll3
          | brk σ3 h3 => exact sr _ _ q3 _ ll3
          | ret v h => exact sr _ _ q3 _ ll3
          | exc c d s h => exact sr _ _ q3 _ ll3
          | bad => exact sr _ _ q3 _ ll3
      | _ => exact sr _ _ q1 _ ll1
    · cases o with
      | exc c d h' => exact sr _ _ q3 _ ll3
      | bad => exact sr _ _ q3 _ ll3
mutual
theorem relS : ∀ (s : IS) (σ : St) (h : LH) (k : SO → Option Nat) (k' : SO → Prop) (d : Nat), SR X k k' → rS D1 s σ h k = some d → ∀ c, d + X ≤ c → rS D2 s σ (h.wc c) k'
  | .pass, σ, h, k, k', dd, sr, q, cc, ll => by simp only [rS] at q ⊢; exact sr _ _ q _ ll
  | .brk, σ, h, k, k', dd, sr, q, cc, ll => by simp only [rS] at q ⊢; exact sr _ _ q _ ll
  | .cnt, σ, h, k, k', dd, sr, q, cc, ll => by simp only [rS] at q ⊢; exact sr _ _ q _ ll
  | .retN, σ, h, k, k', dd, sr, q, cc, ll => by simp only [rS] at q ⊢; exact sr _ _ q _ ll
  | .ret e, σ, h, k, k', dd, sr, q, cc, ll => by simp only [rS] at q ⊢; exact relE R e _ _ _ _ _ _ _ (fun v h1 dd1 q1 cc1 ll1 => sr _ _ q1 _ ll1) (sr.xs σ) q _ ll
  | .expr e, σ, h, k, k', dd, sr, q, cc, ll => by simp only [rS] at q ⊢; exact relE R e _ _ _ _ _ _ _ (fun v h1 dd1 q1 cc1 ll1 => sr _ _ q1 _ ll1) (sr.xs σ) q _ ll
  | .asg g e, σ, h, k, k', dd, sr, q, cc, ll => by simp only [rS] at q ⊢; exact relE R e _ _ _ _ _ _ _ (fun v h1 dd1 q1 cc1 ll1 => relG R g _ _ _ _ _ _ _ _ (fun σ2 h2 dd2 q2 cc2 ll2 => sr _ _ q2 _ ll2) (sr.xs σ) q1 _ ll1) (sr.xs σ) q _ ll
  | .par is es, σ, h, k, k', dd, sr, q, cc, ll => by
    simp only [rS] at q ⊢
    refine relEs R es _ _ _ _ _ _ _ (fun vs h1 dd1 q1 cc1 ll1 => ?_) (sr.xs σ) q _ ll
    try dsimp only at q1 ⊢
    cases c : Nat.beq vs.length is.length with
    | true => rw [c] at q1; exact sr _ _ q1 _ ll1
    | false => rw [c] at q1; exact sr _ _ q1 _ ll1
  | .aug i e, σ, h, k, k', dd, sr, q, cc, ll => by
    simp only [rS] at q ⊢
    cases c : σ[i]? with
    | none => rw [c] at q; exact sr _ _ q _ ll
    | some o =>
      rw [c] at q
      cases o with
      | none => exact sr _ _ q _ ll
      | some v =>
        refine relE R e _ _ _ _ _ _ _ (fun w h1 dd1 q1 cc1 ll1 => ?_) (sr.xs σ) q _ ll
        cases v with
        | int a =>
          cases w with
          | int b => exact sr _ _ q1 _ ll1
          | _ => exact sr _ _ q1 _ ll1
        | _ => exact sr _ _ q1 _ ll1
  | .augf _ _ _ _, σ, h, k, k', dd, sr, q, cc, ll => by simp only [rS] at q ⊢; exact sr _ _ q _ ll
  | .augs _ _ _ _, σ, h, k, k', dd, sr, q, cc, ll => by simp only [rS] at q ⊢; exact sr _ _ q _ ll
  | .ite t a b, σ, h, k, k', dd, sr, q, cc, ll => by
    simp only [rS] at q ⊢
    refine relE R t _ _ _ _ _ _ _ (fun v h1 dd1 q1 cc1 ll1 => ?_) (sr.xs σ) q _ ll
    cases v with
    | bl c =>
      cases c with
      | true => exact relSs a _ _ _ _ _ sr q1 _ ll1
      | false => exact relSs b _ _ _ _ _ sr q1 _ ll1
    | _ => exact sr _ _ q1 _ ll1
  | .whl dead m t b, σ, h, k, k', dd, sr, q, cc, ll => by
    simp only [rS] at q ⊢
    exact rel_whl R (fun σ h k x k' x' d => relE R t σ h k x k' x' d) (fun σ h k k' d => relSs b σ h k k' d) _ _ _ _ _ _ sr q _ ll
  | .for_ dead g it b, σ, h, k, k', dd, sr, q, cc, ll => by
    simp only [rS] at q ⊢
    refine relI R it _ _ _ _ _ _ _ (fun j h1 dd1 q1 cc1 ll1 => ?_) (sr.xs σ) q _ ll
    rw [← R.T]
    exact rel_for R (fun v σ h k x k' x' d => relG R g v σ h k x k' x' d) (fun σ h k k' d => relSs b σ h k k' d) _ _ _ _ _ _ _ sr q1 _ ll1
  | .rais c f e, σ, h, k, k', dd, sr, q, cc, ll => by simp only [rS] at q ⊢; exact relE R e _ _ _ _ _ _ _ (fun v h1 dd1 q1 cc1 ll1 => sr _ _ q1 _ ll1) (sr.xs σ) q _ ll
  | .try_ b hs, σ, h, k, k', dd, sr, q, cc, ll => by
    simp only [rS] at q ⊢
    refine relSs b _ _ _ _ _ (fun o dd1 q1 cc1 ll1 => ?_) q _ ll
    cases o with
    | exc c d σ1 h1 => exact relHs hs _ _ _ _ _ _ _ sr q1 _ ll1
    | nxt _ _ => exact sr _ _ q1 _ ll1
    | brk _ _ => exact sr _ _ q1 _ ll1
    | cnt _ _ => exact sr _ _ q1 _ ll1
    | ret _ _ => exact sr _ _ q1 _ ll1
    | bad => exact sr _ _ q1 _ ll1
  | .bad, σ, h, k, k', dd, sr, q, cc, ll => by simp only [rS] at q ⊢; exact sr _ _ q _ ll
theorem relSs : ∀ (s : ISs) (σ : St) (h : LH) (k : SO → Option Nat) (k' : SO → Prop) (d : Nat), SR X k k' → rSs D1 s σ h k = some d → ∀ c, d + X ≤ c → rSs D2 s σ (h.wc c) k'
  | .nil, σ, h, k, k', dd, sr, q, cc, ll => by simp only [rSs] at q ⊢; exact sr _ _ q _ ll
  | .cons s ss, σ, h, k, k', dd, sr, q, cc, ll => by
    simp only [rSs] at q ⊢
    refine relS s _ _ _ _ _ (fun o dd1 q1 cc1 ll1 => ?_) q _ ll
    cases o with
    | nxt σ1 h1 => exact relSs ss _ _ _ _ _ sr q1 _ ll1
    | brk _ _ => exact sr _ _ q1 _ ll1
    | cnt _ _ => exact sr _ _ q1 _ ll1
    | ret _ _ => exact sr _ _ q1 _ ll1
    | exc _ _ _ _ => exact sr _ _ q1 _ ll1
    | bad => exact sr _ _ q1 _ ll1
theorem relHs : ∀ (s : IHs) (ec ed : Nat) (σ : St) (h : LH) (k : SO → Option Nat) (k' : SO → Prop) (d : Nat), SR X k k' → rHs D1 s ec ed σ h k = some d → ∀ c, d + X ≤ c → rHs D2 s ec ed σ (h.wc c) k'
  | .nil, c, d, σ, h, k, k', dd, sr, q, cc, ll => by simp only [rHs] at q ⊢; exact sr _ _ q _ ll
  | .cons cs _ b hs, c, d, σ, h, k, k', dd, sr, q, cc, ll => by
    simp only [rHs] at q ⊢
    rw [← R.T]
    cases e : caught D1.T c cs with
    | true => rw [e] at q; exact relSs b _ _ _ _ _ sr q _ ll
    | false => rw [e] at q; exact relHs hs _ _ _ _ _ _ _ sr q _ ll
end
theorem rel_body {fn : Fn} {vs : List LV} {h : LH} {k : LV → LH → Option Nat} {x : XO → Option Nat} {k' : LV → LH → Prop} {x' : XO → Prop} {dd : Nat} (kr : KR X k k') (xr : XR X x x') (q : bodyR D1 fn vs h k x = some dd) (cc : Nat) (ll : dd + X ≤ cc) : bodyR D2 fn vs (h.wc cc) k' x' := by
  unfold bodyR at q ⊢
  cases c : Nat.beq vs.length fn.np with
  | false => rw [c] at q; exact xr _ _ q _ ll
  | true =>
    rw [c] at q
    refine relSs R _ _ _ _ _ _ (fun o dd1 q1 cc1 ll1 => ?_) q _ ll
    cases o with
    | nxt _ _ => exact kr _ _ _ q1 _ ll1
    | ret _ _ => exact kr _ _ _ q1 _ ll1
    | exc _ _ _ _ => exact xr _ _ q1 _ ll1
    | brk _ _ => exact xr _ _ q1 _ ll1
    | cnt _ _ => exact xr _ _ q1 _ ll1
    | bad => exact xr _ _ q1 _ ll1
end
def SpRel (X : Nat) (sp : Nat → Nat → Option (Spc (Option Nat))) (sp' : Nat → Nat → Option (Spc Prop)) : Prop := ∀ n f, (sp n f = none ∧ sp' n f = none) ∨ ∃ p p', sp n f = some p ∧ sp' n f = some p' ∧
  ∀ vs h k x k' x' d, KR X k k' → XR X x x' → p vs h k x = some d → ∀ c, d + X ≤ c → p' vs (h.wc c) k' x'
def GcRel (X : Nat) (gc : Nat → (St → LH → Option Nat) → St → LH → Option Nat) (gc' : Nat → (St → LH → Prop) → St → LH → Prop) : Prop := ∀ b kk kk' s h d, KR X kk kk' → gc b kk s h = some d → ∀ c, d + X ≤ c → gc' b kk' s (h.wc c)
theorem callN_rel {X : Nat} {T : Tab} {Fs : List Fn} {sp : Nat → Nat → Option (Spc (Option Nat))} {sp' : Nat → Nat → Option (Spc Prop)} {gc : Nat → (St → LH → Option Nat) → St → LH → Option Nat} {gc' : Nat → (St → LH → Prop) → St → LH → Prop} (hs : SpRel X sp sp') (hg : GcRel X gc gc') :
    ∀ n, HRel X (callN T Fs sp gc n) (callN T Fs sp' gc' n)
  | 0 => ⟨rfl, fun f vs h k x k' x' dd kr xr q cc ll => xr _ _ q _ ll, hg⟩
  | n + 1 => ⟨rfl, fun f vs h k x k' x' dd kr xr q cc ll => by
      have ih := callN_rel (T := T) (Fs := Fs) hs hg n
      rw [callN_call] at q ⊢
      rcases hs n f with ⟨e1, e2⟩ | ⟨p, p', e1, e2, hp⟩
      · rw [e1] at q
        rw [e2]
        dsimp only at q ⊢
        cases c : Fs[f]? with
        | none => rw [c] at q; exact xr _ _ q _ ll
        | some fn => rw [c] at q; exact rel_body ih kr xr q _ ll
      · rw [e1] at q
        rw [e2]
        exact hp _ _ _ _ _ _ _ kr xr q _ ll, hg⟩
end L3

/-! L3R: draws; the heap's cleaning. -/
set_option autoImplicit false
set_option linter.all false
set_option maxRecDepth 100000
set_option maxHeartbeats 4000000
namespace L3
open PySem PyProof.Rows L2

/-! ### what a loop's turn leaves behind goes, where nothing names it -/
def hi (b : Nat) : LV → Bool
  | .ref a => !Nat.blt a b
  | _ => false
def loHi (b : Nat) : LO → Bool
  | .lst xs => xs.any (hi b)
  | .tup xs => xs.any (hi b)
  | .dic kvs => kvs.any fun p => hi b p.2
  | .ins _ fs => fs.any fun p => hi b p.2
  | .xd fs => fs.any fun p => hi b p.2
  | _ => false
def sHi (b : Nat) : Option LV → Bool
  | some v => hi b v
  | none => false
def gcT {R : Type} (b : Nat) (kk : St → LH → R) (s : St) (h : LH) : R :=
  bif s.any (sHi b) || (h.os.drop (h.n - b)).any (loHi b) then kk s h else kk s ⟨b, h.os.drop (h.n - b), h.c⟩
theorem hi_inb {b : Nat} {v : LV} (h : hi b v = false) : inb b v := by
  cases v with
  | ref a =>
    have h : (!Nat.blt a b) = false := h
    rw [Bool.not_eq_false'] at h
    exact Nat.le_of_ble_eq_true h
  | _ => trivial
theorem ro_low {T : Tab} {K : PySem.W.Frag} {ρ : Nat → Addr} {n c b : Nat} {o : LO} {u : HO} (r : ro T K ρ n c o u) (h : loHi b o = false) : ro T K ρ b c o u := by
  cases o with
  | lst xs => obtain ⟨_, q⟩ := r; exact ⟨fun v hv => hi_inb (by simpa using List.any_eq_false.mp h v hv), q⟩
  | tup xs => obtain ⟨_, q⟩ := r; exact ⟨fun v hv => hi_inb (by simpa using List.any_eq_false.mp h v hv), q⟩
  | dic kvs => obtain ⟨⟨q1, q2⟩, q⟩ := r; exact ⟨⟨fun p hp => ⟨(q1 p hp).1, hi_inb (by simpa using List.any_eq_false.mp h p hp)⟩, q2⟩, q⟩
  | ins cl fs => obtain ⟨⟨q1, _⟩, q⟩ := r; exact ⟨⟨q1, fun p hp => hi_inb (by simpa using List.any_eq_false.mp h p hp)⟩, q⟩
  | xd fs => obtain ⟨_, q⟩ := r; exact ⟨fun p hp => hi_inb (by simpa using List.any_eq_false.mp h p hp), q⟩
  | rol ns => exact r
  | box m => exact r
  | gone => trivial
theorem gcT_ok : GcOk gcT := by
  intro b kk s h q hl hb
  unfold gcT at q
  cases c : (s.any (sHi b) || (h.os.drop (h.n - b)).any (loHi b)) with
  | true =>
    rw [c] at q
    exact ⟨s, h, q, hb, fun T K ρ H σ r hs => ⟨ρ, .refl _ _, r, hs, fun a ha => ⟨a, ha, rfl⟩⟩⟩
  | false =>
    rw [c] at q
    rw [Bool.or_eq_false_iff] at c
    refine ⟨s, _, q, Nat.le_refl _, fun T K ρ H σ r hs => ⟨ρ, .refl _ _, ⟨?_, fun a o e => ?_, fun x y hx hy => r.inj x y (Nat.lt_of_lt_of_le hx hb) (Nat.lt_of_lt_of_le hy hb)⟩, ⟨hs.len, fun i v e => ?_⟩, fun a ha => ⟨a, Nat.lt_of_lt_of_le ha hb, rfl⟩⟩⟩
    · show (h.os.drop (h.n - b)).length = b
      rw [List.length_drop]; omega
    · have ha : a < b := get_lt e
      rw [get_def, if_pos ha] at e
      have e : (h.os.drop (h.n - b))[b - 1 - a]? = some o := e
      have e' : h.get a = some o := by
        rw [get_def, if_pos (Nat.lt_of_lt_of_le ha hb)]
        rw [List.getElem?_drop] at e
        rw [← e]
        congr 1
        omega
      obtain ⟨u, hu, ru⟩ := r.obj a o e'
      exact ⟨u, hu, ro_low ru (by simpa using List.any_eq_false.mp c.2 o (List.mem_of_getElem? e))⟩
    · refine ⟨hi_inb ?_, (hs.at_ i v e).2⟩
      have := List.any_eq_false.mp c.1 (some v) (List.mem_of_getElem? e)
      simpa [sHi] using this
theorem gcT_rel (X : Nat) : GcRel X gcT gcT := by
  intro b kk kk' s h d kr q c l
  unfold gcT at q ⊢
  cases e : (s.any (sHi b) || (h.os.drop (h.n - b)).any (loHi b)) with
  | true =>
    rw [e] at q
    have e' : (s.any (sHi b) || ((h.wc c).os.drop ((h.wc c).n - b)).any (loHi b)) = true := e
    rw [e']
    exact kr _ _ _ q _ l
  | false =>
    rw [e] at q
    have e' : (s.any (sHi b) || ((h.wc c).os.drop ((h.wc c).n - b)).any (loHi b)) = false := e
    rw [e']
    exact kr _ _ _ q _ l

/-! ### boxes -/
section
variable {T : Tab} {K : PySem.W.Frag} {ρ : Nat → Addr} {h : LH} {H : Hp}
/-- a box, opened -/
theorem Rep.open_ (r : Rep T K ρ h H) {a m : Nat} (e : h.get a = some (.box m)) : ∃ ns : List Int, (ns.length = m ∧ ns.length ≤ 8) ∧ bxOk h.c ns ∧ Rep T K ρ (h.set a (.lst (ns.map .int))) H := by
  obtain ⟨u, hu, ns, ⟨hm, hb⟩, rfl⟩ := r.obj a _ e
  refine ⟨ns, hm, hb, ⟨by show (h.os.set _ _).length = h.n; rw [List.length_set, r.len], fun b o eb => ?_, r.inj⟩⟩
  have hl : b < h.n := (get_lt eb : b < (h.set a _).n)
  by_cases z : b = a
  · subst z
    rw [get_set_self r.len hl] at eb
    cases eb
    refine ⟨_, hu, fun v hv => ?_, by rw [List.length_map]; omega, by rw [List.map_map]; rfl⟩
    obtain ⟨i, _, rfl⟩ := List.mem_map.mp hv
    trivial
  · rw [get_set_ne z (get_lt e)] at eb
    exact r.obj b o eb
/-- .. and closed again -/
theorem Rep.close_ {ns : List Int} {a m c : Nat} (hl : h.os.length = h.n) (r : Rep T K ρ (h.set a (.lst (ns.map .int))) H) (e : h.get a = some (.box m)) (hm : ns.length = m ∧ ns.length ≤ 8) (hb : bxOk c ns) (hc : c ≤ h.c) : Rep T K ρ (h.wc c) H := by
  have ha := get_lt e
  refine ⟨hl, fun b o eb => ?_, r.inj⟩
  have eb : h.get b = some o := eb
  by_cases z : b = a
  · subst z
    rw [e] at eb
    cases eb
    obtain ⟨u, hu, q⟩ := r.obj b _ (get_set_self hl ha)
    refine ⟨u, hu, ns, ⟨hm, hb⟩, ?_⟩
    rw [q.2.2, List.map_map]
    rfl
  · obtain ⟨u, hu, q⟩ := r.obj b o (by rw [get_set_ne z ha]; exact eb)
    exact ⟨u, hu, ro_mono (.refl _ _) (Nat.le_refl _) hc q⟩
end
/-- the most of some numbers of draws -/
def maxO (f : Nat → Option Nat) : Nat → Option Nat
  | 0 => some 0
  | n + 1 => match f n with
    | some a => (match maxO f n with
      | some b => some (Nat.max a b)
      | none => none)
    | none => none
theorem maxO_at {f : Nat → Option Nat} : ∀ {n m : Nat}, maxO f n = some m → ∀ i, i < n → ∃ a, f i = some a ∧ a ≤ m
  | 0, m, h, i, hi => absurd hi (Nat.not_lt_zero _)
  | n + 1, m, h, i, hi => by
    unfold maxO at h
    cases c : f n with
    | none => rw [c] at h; cases h
    | some a =>
      rw [c] at h
      dsimp only at h
      cases c2 : maxO f n with
      | none => rw [c2] at h; cases h
      | some b =>
        rw [c2] at h
        cases h
        by_cases e : i = n
        · subst e; exact ⟨a, c, Nat.le_max_left _ _⟩
        · obtain ⟨a', h1, h2⟩ := maxO_at c2 i (by omega)
          exact ⟨a', h1, Nat.le_trans h2 (Nat.le_max_right _ _)⟩
/-- a draw: any of many -/
def takeN : Spc (Option Nat) := fun vs h k x => match vs with
  | [.ref a, .int m] => (match h.get a with
    | some (.box _) => bif decide (0 < m) && decide (m ≤ 1000) then (match maxO (fun d => k (.int d) h) m.toNat with
      | some n => some (n + 1)
      | none => none) else x .bad
    | _ => x .bad)
  | _ => x .bad
def takeP : Spc Prop := fun vs h k x => match vs with
  | [.ref a, .int m] => (match h.get a with
    | some (.box _) => (0 < m ∧ m ≤ 1000) ∧ (∃ c, h.c = c + 1 ∧ ∀ d : Nat, d < m.toNat → k (.int d) (h.wc c)) ∨ x .bad
    | _ => x .bad)
  | _ => x .bad
theorem take_rel {X : Nat} : ∀ vs h k x k' x' d, KR X k k' → XR X x x' → takeN vs h k x = some d → ∀ c, d + X ≤ c → takeP vs (h.wc c) k' x' := by
  intro vs h k x k' x' d kr xr q c l
  have bad : x .bad = some d → x' .bad := fun z => xr .bad _ z c l
  unfold takeN at q
  unfold takeP
  split at q
  · rename_i a m
    simp only [get_wc]
    split at q
    · rename_i e
      cases c1 : (decide (0 < m) && decide (m ≤ 1000)) with
      | false => rw [c1] at q; exact .inr (bad q)
      | true =>
        rw [c1] at q
        rw [Bool.and_eq_true] at c1
        dsimp only [cond] at q
        cases c2 : maxO (fun d => k (.int d) h) m.toNat with
        | none => rw [c2] at q; cases q
        | some n =>
          rw [c2] at q
          cases q
          refine .inl ⟨⟨of_decide_eq_true c1.1, of_decide_eq_true c1.2⟩, c - 1, by show c = _; omega, fun i hi => ?_⟩
          obtain ⟨a', h1, h2⟩ := maxO_at c2 i hi
          exact kr _ _ _ h1 _ (by omega)
    · first | exact bad q | (split <;> first | exact bad q | (rename_i ne _ _ e; exact (ne _ e).elim))
  · first | exact bad q | (split <;> first | exact bad q | (rename_i ne _ _ _; exact (ne _ _ rfl).elim))

/-- the text of the laws' draw -/
def takeIR : ISs := (L3.ISs.cons (L3.IS.ite (L3.IE.prim (L3.P.gt) (L3.IEs.cons (L3.IE.prim (L3.P.ix) (L3.IEs.cons (L3.IE.var 0) (L3.IEs.cons (L3.IE.con (L3.LV.int 0)) (L3.IEs.nil)))) (L3.IEs.cons (L3.IE.con (L3.LV.int 0)) (L3.IEs.nil)))) (L3.ISs.cons (L3.IS.asg (L3.IG.name 2) (L3.IE.prim (L3.P.mod) (L3.IEs.cons (L3.IE.prim (L3.P.ix) (L3.IEs.cons (L3.IE.var 0) (L3.IEs.cons (L3.IE.con (L3.LV.int 0)) (L3.IEs.nil)))) (L3.IEs.cons (L3.IE.var 1) (L3.IEs.nil))))) (L3.ISs.cons (L3.IS.asg (L3.IG.sub (L3.IE.var 0) (L3.IE.con (L3.LV.int 0))) (L3.IE.prim (L3.P.fdiv) (L3.IEs.cons (L3.IE.prim (L3.P.ix) (L3.IEs.cons (L3.IE.var 0) (L3.IEs.cons (L3.IE.con (L3.LV.int 0)) (L3.IEs.nil)))) (L3.IEs.cons (L3.IE.var 1) (L3.IEs.nil))))) (L3.ISs.cons (L3.IS.ret (L3.IE.var 2)) (L3.ISs.nil)))) (L3.ISs.nil)) (L3.ISs.cons (L3.IS.asg (L3.IG.sub (L3.IE.var 0) (L3.IE.con (L3.LV.int 2))) (L3.IE.prim (L3.P.add) (L3.IEs.cons (L3.IE.prim (L3.P.ix) (L3.IEs.cons (L3.IE.var 0) (L3.IEs.cons (L3.IE.con (L3.LV.int 2)) (L3.IEs.nil)))) (L3.IEs.cons (L3.IE.con (L3.LV.int 1)) (L3.IEs.nil))))) (L3.ISs.cons (L3.IS.asg (L3.IG.name 3) (L3.IE.prim (L3.P.mod) (L3.IEs.cons (L3.IE.prim (L3.P.pow) (L3.IEs.cons (L3.IE.prim (L3.P.add) (L3.IEs.cons (L3.IE.prim (L3.P.add) (L3.IEs.cons (L3.IE.prim (L3.P.ix) (L3.IEs.cons (L3.IE.var 0) (L3.IEs.cons (L3.IE.con (L3.LV.int 1)) (L3.IEs.nil)))) (L3.IEs.cons (L3.IE.prim (L3.P.mul) (L3.IEs.cons (L3.IE.con (L3.LV.int 7919)) (L3.IEs.cons (L3.IE.prim (L3.P.ix) (L3.IEs.cons (L3.IE.var 0) (L3.IEs.cons (L3.IE.con (L3.LV.int 2)) (L3.IEs.nil)))) (L3.IEs.nil)))) (L3.IEs.nil)))) (L3.IEs.cons (L3.IE.con (L3.LV.int 17)) (L3.IEs.nil)))) (L3.IEs.cons (L3.IE.con (L3.LV.int 5)) (L3.IEs.nil)))) (L3.IEs.cons (L3.IE.con (L3.LV.int 2147483647)) (L3.IEs.nil))))) (L3.ISs.cons (L3.IS.asg (L3.IG.name 3) (L3.IE.prim (L3.P.mod) (L3.IEs.cons (L3.IE.prim (L3.P.pow) (L3.IEs.cons (L3.IE.prim (L3.P.add) (L3.IEs.cons (L3.IE.var 3) (L3.IEs.cons (L3.IE.prim (L3.P.mul) (L3.IEs.cons (L3.IE.con (L3.LV.int 104729)) (L3.IEs.cons (L3.IE.prim (L3.P.ix) (L3.IEs.cons (L3.IE.var 0) (L3.IEs.cons (L3.IE.con (L3.LV.int 2)) (L3.IEs.nil)))) (L3.IEs.nil)))) (L3.IEs.nil)))) (L3.IEs.cons (L3.IE.con (L3.LV.int 3)) (L3.IEs.nil)))) (L3.IEs.cons (L3.IE.con (L3.LV.int 2147483587)) (L3.IEs.nil))))) (L3.ISs.cons (L3.IS.ret (L3.IE.prim (L3.P.mod) (L3.IEs.cons (L3.IE.prim (L3.P.fdiv) (L3.IEs.cons (L3.IE.var 3) (L3.IEs.cons (L3.IE.con (L3.LV.int 16)) (L3.IEs.nil)))) (L3.IEs.cons (L3.IE.var 1) (L3.IEs.nil))))) (L3.ISs.nil))))))
def takeFn : Fn := ⟨2, 4, takeIR⟩
section
variable {T : Tab} {h : LH} {a : Nat}
theorem ix_at {xs : List LV} {z : Int} (e : h.get a = some (.lst xs)) : bin T .ix (.ref a) (.int z) h = (match atI xs z with
    | some v => okn v h
    | none => none) := by
  show (match h.get a with
    | some (.dic kvs) => match getD (.int z) kvs with
      | some v => okn v h
      | none => none
    | _ => match seqOf T h (.ref a) with
      | some xs => match atI xs z with
        | some v => okn v h
        | none => none
      | none => none) = _
  have s : seqOf T h (.ref a) = some xs := by show (match h.get a with | some (.lst xs) => some xs | some (.tup xs) => some xs | some (.rol ns) => some (ns.map .int) | _ => none) = _; rw [e]
  rw [s, e]
end
theorem ixN_nat {n z : Nat} (h : z < n) : ixN n (z : Int) = some z := by
  unfold ixN
  rw [decide_eq_true (by omega : (0 : Int) ≤ (z : Int)), decide_eq_true (by omega : (z : Int) < (n : Int))]
  rfl
theorem atI_nat {α : Type} {xs : List α} {z : Nat} (h : z < xs.length) : atI xs (z : Int) = xs[z]? := by
  unfold atI
  rw [ixN_nat h]
theorem take_body {D : Hd Prop} {h : LH} {a : Nat} {i j n m : Int} {rest : List Int} {k : LV → LH → Prop} {x : XO → Prop} (hl : h.os.length = h.n) (hg : h.get a = some (.lst ((i :: j :: n :: rest).map .int))) (hm : 0 < m) (hm2 : m ≤ 1000) (hj : 0 ≤ j) (hj2 : j < 2 ^ 31) (hn : 0 ≤ n) (hn2 : n < 2 ^ 40)
    (hk : ∀ (d : Nat) (i' n' : Int), d < m.toNat → 0 ≤ n' → n' ≤ n + 1 → k (.int d) (h.set a (.lst ((i' :: j :: n' :: rest).map .int)))) : bodyR D takeFn [.ref a, .int m] h k x := by
  have hx0 : bin D.T .ix (.ref a) (.int 0) h = okn (.int i) h := by rw [ix_at hg, show (0 : Int) = ((0 : Nat) : Int) from rfl, atI_nat (by simp)]; rfl
  have hx1 : bin D.T .ix (.ref a) (.int 1) h = okn (.int j) h := by rw [ix_at hg, show (1 : Int) = ((1 : Nat) : Int) from rfl, atI_nat (by simp)]; rfl
  have hx2 : bin D.T .ix (.ref a) (.int 2) h = okn (.int n) h := by rw [ix_at hg, show (2 : Int) = ((2 : Nat) : Int) from rfl, atI_nat (by simp)]; rfl
  show rSs D takeIR [some (.ref a), some (.int m), none, none] h (endS k x)
  by_cases hi : 0 < i
  · have e1 : bin D.T .gt (.int i) (.int 0) h = okn (.bl true) h := by show okn (.bl (decide (0 < i))) h = _; rw [decide_eq_true hi]
    have e2 : bin D.T .mod (.int i) (.int m) h = okn (.int (i % m)) h := by show (bif decide (0 < m) then okn (.int (i % m)) h else none) = _; rw [decide_eq_true hm]; rfl
    have e3 : bin D.T .fdiv (.int i) (.int m) h = okn (.int (i / m)) h := by show (bif decide (0 < m) && decide (m < 1073741824) then okn (.int (i / m)) h else none) = _; rw [decide_eq_true hm, decide_eq_true (by omega : m < 1073741824)]; rfl
    have d0 : 0 ≤ i % m := Int.emod_nonneg _ (by omega)
    have d1 : i % m < m := Int.emod_lt_of_pos _ hm
    have z := hk (i % m).toNat (i / m) n (by omega) hn (by omega)
    rw [Int.toNat_of_nonneg d0] at z
    have gs : h.get a = some (.lst (.int i :: .int j :: .int n :: rest.map .int)) := hg
    have f0 : ixN ((.int i :: .int j :: .int n :: rest.map .int) : List LV).length 0 = some 0 := ixN_nat (z := 0) (by simp)
    simp only [takeIR, rSs, rS, rE, rEs, rG, prim, List.getElem?_cons_zero, List.getElem?_cons_succ, hx0, okn, e1, e2, e3, List.set_cons_zero, List.set_cons_succ, gs, f0]
    exact z
  · have e1 : bin D.T .gt (.int i) (.int 0) h = okn (.bl false) h := by show okn (.bl (decide (0 < i))) h = _; rw [decide_eq_false hi]
    have gs : h.get a = some (.lst (.int i :: .int j :: .int n :: rest.map .int)) := hg
    have f2 : ixN ((.int i :: .int j :: .int n :: rest.map .int) : List LV).length 2 = some 2 := ixN_nat (z := 2) (by simp)
    have ha := get_lt hg
    have hg' : (h.set a (.lst (.int i :: .int j :: .int (n + 1) :: rest.map .int))).get a = some (.lst ((i :: j :: (n + 1) :: rest).map .int)) := get_set_self hl ha
    obtain ⟨h', eh⟩ : ∃ h', h' = h.set a (.lst (.int i :: .int j :: .int (n + 1) :: rest.map .int)) := ⟨_, rfl⟩
    rw [← eh] at hg'
    have hx1' : bin D.T .ix (.ref a) (.int 1) h' = okn (.int j) h' := by rw [ix_at hg', show (1 : Int) = ((1 : Nat) : Int) from rfl, atI_nat (by simp)]; rfl
    have hx2' : bin D.T .ix (.ref a) (.int 2) h' = okn (.int (n + 1)) h' := by rw [ix_at hg', show (2 : Int) = ((2 : Nat) : Int) from rfl, atI_nat (by simp)]; rfl
    have ea : ∀ (u v : Int) (h : LH), bin D.T .add (.int u) (.int v) h = okn (.int (u + v)) h := fun _ _ _ => rfl
    have em1 : ∀ (v : Int) (h : LH), bin D.T .mul (.int 7919) (.int v) h = okn (.int (7919 * v)) h := fun v h => by
      show (bif small 7919 || small v then okn (.int (7919 * v)) h else none) = _
      rw [show small 7919 = true from by decide +kernel]; rfl
    have em2 : ∀ (v : Int) (h : LH), bin D.T .mul (.int 104729) (.int v) h = okn (.int (104729 * v)) h := fun v h => by
      show (bif small 104729 || small v then okn (.int (104729 * v)) h else none) = _
      rw [show small 104729 = true from by decide +kernel]; rfl
    have emd : ∀ (u v : Int) (h : LH), 0 < v → bin D.T .mod (.int u) (.int v) h = okn (.int (u % v)) h := fun u v h hv => by
      show (bif decide (0 < v) then okn (.int (u % v)) h else none) = _
      rw [decide_eq_true hv]; rfl
    have ef : ∀ (u : Int) (h : LH), bin D.T .fdiv (.int u) (.int 16) h = okn (.int (u / 16)) h := fun u h => rfl
    have ep : ∀ (u : Int) (e : Nat) (h : LH), (e : Int) ≤ 1000000 → u.natAbs < 2 ^ 64 → bin D.T .pow (.int u) (.int e) h = okn (.int (u ^ e)) h := fun u e h he hu => by
      show (bif decide ((0 : Int) ≤ e) && decide ((e : Int) ≤ 1000000) && Nat.blt u.natAbs (2 ^ 64) then okn (.int (u ^ (e : Int).toNat)) h else none) = _
      rw [decide_eq_true (by omega : (0 : Int) ≤ (e : Int)), decide_eq_true he, show Nat.blt u.natAbs (2 ^ 64) = true from Nat.ble_eq_true_of_le hu]
      rfl
    obtain ⟨b1, eb1⟩ : ∃ b1 : Int, b1 = j + 7919 * (n + 1) + 17 := ⟨_, rfl⟩
    have hb1 : b1.natAbs < 2 ^ 64 := by omega
    have ep1 : bin D.T .pow (.int b1) (.int 5) h' = okn (.int (b1 ^ 5)) h' := ep b1 5 h' (by decide) hb1
    obtain ⟨p1, ep1'⟩ : ∃ p1 : Int, p1 = b1 ^ 5 := ⟨_, rfl⟩
    rw [← ep1'] at ep1
    obtain ⟨q1, eq1⟩ : ∃ q1 : Int, q1 = p1 % 2147483647 := ⟨_, rfl⟩
    have hq1 : 0 ≤ q1 ∧ q1 < 2147483647 := by subst eq1; exact ⟨Int.emod_nonneg _ (by decide), Int.emod_lt_of_pos _ (by decide)⟩
    obtain ⟨b2, eb2⟩ : ∃ b2 : Int, b2 = q1 + 104729 * (n + 1) := ⟨_, rfl⟩
    have hb2 : b2.natAbs < 2 ^ 64 := by omega
    have ep2 : bin D.T .pow (.int b2) (.int 3) h' = okn (.int (b2 ^ 3)) h' := ep b2 3 h' (by decide) hb2
    obtain ⟨p2, ep2'⟩ : ∃ p2 : Int, p2 = b2 ^ 3 := ⟨_, rfl⟩
    rw [← ep2'] at ep2
    obtain ⟨q2, eq2⟩ : ∃ q2 : Int, q2 = p2 % 2147483587 := ⟨_, rfl⟩
    obtain ⟨r, er⟩ : ∃ r : Int, r = q2 / 16 % m := ⟨_, rfl⟩
    have hr : 0 ≤ r ∧ r < m := by subst er; exact ⟨Int.emod_nonneg _ (by omega), Int.emod_lt_of_pos _ hm⟩
    have c1 : bin D.T .mod (.int p1) (.int 2147483647) h' = okn (.int q1) h' := by rw [eq1]; exact emd _ _ _ (by decide)
    have c2 : bin D.T .mod (.int p2) (.int 2147483587) h' = okn (.int q2) h' := by rw [eq2]; exact emd _ _ _ (by decide)
    have c3 : bin D.T .mod (.int (q2 / 16)) (.int m) h' = okn (.int r) h' := by rw [er]; exact emd _ _ _ hm
    have z := hk r.toNat i (n + 1) (by omega) (by omega) (by omega)
    rw [Int.toNat_of_nonneg hr.1] at z
    have z : k (.int r) h' := by rw [eh]; exact z
    simp only [takeIR, rSs, rS, rE, rEs, rG, prim, List.getElem?_cons_zero, List.getElem?_cons_succ, hx0, hx2, okn, e1, ea, List.set_cons_zero, List.set_cons_succ, gs, f2, ← eh, hx1', hx2', em1, ← eb1, ep1, c1, em2, ← eb2, ep2, c2, ef, c3]
    exact z
/-- the draw's body does what is told of it -/
theorem take_ok {T : Tab} {Fs : List Fn} {sp : Nat → Nat → Option (Spc Prop)} {gc : Nat → (St → LH → Prop) → St → LH → Prop} (n : Nat) (vs : List LV) (h : LH) (k : LV → LH → Prop) (x : XO → Prop) (q : takeP vs h k x) (nb : ¬ x .bad) : vs.length = takeFn.np ∧
    ∀ (K : PySem.W.Frag) (ρ : Nat → Addr) (H : Hp), Rep T K ρ h H → (∀ v ∈ vs, inb h.n v) → ∃ vs2 ρ2 h2 k2 x2, vs2.map (vx T K ρ2) = vs.map (vx T K ρ) ∧ (∀ v ∈ vs2, inb h2.n v) ∧ Rep T K ρ2 h2 H ∧ bodyR (callN T Fs sp gc n) takeFn vs2 h2 k2 x2 ∧
      (∀ Q, KOk T K ρ h H Q k → KOk T K ρ2 h2 H Q k2) ∧ ∀ E, XOk T K ρ h H E x → XOk T K ρ2 h2 H E x2 := by
  unfold takeP at q
  split at q
  · rename_i a m
    split at q
    · rename_i mm e
      rcases q with ⟨⟨hm, hm2⟩, c, hc, hk⟩ | q
      · refine ⟨rfl, fun K ρ H r iv => ?_⟩
        obtain ⟨ns, ⟨l1, l2⟩, hb, r2⟩ := r.open_ e
        match ns, hb with
        | i :: j :: nn :: rest, hb =>
          obtain ⟨hj, hj2, hn, hn2⟩ := (show 0 ≤ j ∧ j < 2 ^ 31 ∧ 0 ≤ nn ∧ nn + (h.c : Int) ≤ 2 ^ 40 from hb)
          have ha := get_lt e
          refine ⟨_, ρ, h.set a (.lst ((i :: j :: nn :: rest).map .int)), fun v h' => ∃ (d : Nat) (i' n' : Int), d < m.toNat ∧ 0 ≤ n' ∧ n' ≤ nn + 1 ∧ v = .int d ∧ h' = (h.set a (.lst ((i :: j :: nn :: rest).map .int))).set a (.lst ((i' :: j :: n' :: rest).map .int)), fun _ => False, rfl, iv, r2,
            take_body (by show (h.os.set _ _).length = h.n; rw [List.length_set, r.len]) (get_set_self r.len ha) hm hm2 hj hj2 hn (by omega) (fun d i' n' hd h1 h2 => ⟨d, i', n', hd, h1, h2, rfl, rfl⟩), fun Q hQ v h' z ρ' H' g i' => ?_, fun E hx o z => z.elim⟩
          obtain ⟨d, i'', n', hd, h1, h2, rfl, rfl⟩ := z
          have es : (h.set a (.lst ((i :: j :: nn :: rest).map .int))).set a (.lst ((i'' :: j :: n' :: rest).map .int)) = h.set a (.lst ((i'' :: j :: n' :: rest).map .int)) := by
            show (⟨h.n, (h.os.set (h.n - 1 - a) _).set (h.n - 1 - a) _, h.c⟩ : LH) = ⟨h.n, h.os.set (h.n - 1 - a) _, h.c⟩
            rw [List.set_set]
          rw [es] at g
          refine hQ (.int d) (h.wc c) (hk d hd) ρ' H' ⟨g.ext, g.le, Rep.close_ r.len g.rep e ⟨l1, l2⟩ (show 0 ≤ j ∧ j < 2 ^ 31 ∧ 0 ≤ n' ∧ n' + (c : Int) ≤ 2 ^ 40 from ⟨hj, hj2, h1, by omega⟩) (by omega), g.fr⟩ trivial
        | [], hb => exact hb.elim
        | [_], hb => exact hb.elim
        | [_, _], hb => exact hb.elim
      · exact (nb q).elim
    · exact (nb q).elim
  · exact (nb q).elim
end L3

/-! L3S: loops by a list of states; a case of a law. -/
set_option autoImplicit false
set_option linter.all false
set_option maxRecDepth 100000
set_option maxHeartbeats 4000000
namespace L3
open PySem PyProof.Rows L2

def ISs.app : ISs → ISs → ISs
  | .nil, b => b
  | .cons s ss, b => .cons s (ss.app b)
theorem app_eq {R : Type} {D : Hd R} {b : ISs} : ∀ {a : ISs} {σ : St} {h : LH} {k : SO → R}, rSs D (a.app b) σ h k = rSs D a σ h (fun o => match o with
    | .nxt σ1 h1 => rSs D b σ1 h1 k
    | o => k o)
  | .nil, σ, h, k => rfl
  | .cons s ss, σ, h, k => by
    simp only [ISs.app, rSs]
    congr 1
    funext o
    cases o with
    | nxt σ1 h1 => exact app_eq
    | _ => rfl
def memS (S : List (St × LH)) (b : Nat) (σ : St) (h : LH) : Option Nat := bif decide ((σ, h) ∈ S) && Nat.beq h.n b then some 0 else none
/-- a turn ends in one of the states -/
def kS (S : List (St × LH)) (dead : List Nat) (b : Nat) : SO → Option Nat
  | .nxt σ h => gcT b (memS S b) (wipe σ dead) h
  | .cnt σ h => gcT b (memS S b) (wipe σ dead) h
  | _ => none
section
variable {D1 : Hd (Option Nat)} {D2 : Hd Prop} (R : ∀ X, HRel X D1 D2) (g1 : D1.gc = gcT) (g2 : D2.gc = gcT)
include R g2
theorem for_inv {S : List (St × LH)} {dead : List Nat} {b n j Dc E : Nat} {lo : Int} {body : ISs} {k : SO → Prop}
    (hc : ∀ p ∈ S, p.2.n = b → ∃ d, d ≤ Dc ∧ rSs D1 body (p.1.set j none) p.2 (kS S dead b) = some d)
    (hs : ∀ p ∈ S, p.2.n = b → ∀ c, E ≤ c → k (.nxt p.1 (p.2.wc c))) :
    ∀ (m i : Nat) (σ : St) (h : LH) (c : Nat), (σ, h) ∈ S → h.n = b → m + i = n → m * Dc + E ≤ c → forR D2 dead (.rng lo n) b (rG D2 (.drop j)) (rSs D2 body) m i σ (h.wc c) k := by
  intro m
  induction m with
  | zero =>
    intro i σ h c hm hb hi hc'
    unfold forR
    have e : turn D2.T (.rng lo n) i (h.wc c) = .stop := by
      show (bif Nat.blt i n then TR.next _ _ else .stop) = _
      have : Nat.blt i n = false := by
        cases z : Nat.blt i n with
        | false => rfl
        | true => have := Nat.le_of_ble_eq_true z; omega
      rw [this]; rfl
    rw [e]
    exact hs _ hm hb c (by omega)
  | succ m ih =>
    intro i σ h c hm hb hi hc'
    unfold forR
    have e : turn D2.T (.rng lo n) i (h.wc c) = .next (.int (lo + i)) (h.wc c) := by
      show (bif Nat.blt i n then TR.next _ _ else .stop) = _
      rw [show Nat.blt i n = true from Nat.ble_eq_true_of_le (by omega)]; rfl
    rw [e]
    obtain ⟨d, hd, q⟩ := hc _ hm hb
    have hX : d + (m * Dc + E) ≤ c := by
      have : (m + 1) * Dc = m * Dc + Dc := Nat.succ_mul m Dc
      omega
    refine relSs (R (m * Dc + E)) body _ _ _ _ _ (fun o d' q' c' l' => ?_) q c hX
    have go : ∀ (σ3 : St) (h3 : LH), gcT b (memS S b) (wipe σ3 dead) h3 = some d' → D2.gc b (fun σ4 h4 => forR D2 dead (.rng lo n) b (rG D2 (.drop j)) (rSs D2 body) m (i + 1) σ4 h4 k) (wipe σ3 dead) (h3.wc c') := fun σ3 h3 z => by
      rw [g2]
      refine gcT_rel (m * Dc + E) b (memS S b) _ _ _ d' (fun σ4 h4 d4 q4 c4 l4 => ?_) z c' l'
      unfold memS at q4
      cases w : (decide ((σ4, h4) ∈ S) && Nat.beq h4.n b) with
      | false => rw [w] at q4; cases q4
      | true =>
        rw [w] at q4
        rw [Bool.and_eq_true] at w
        exact ih (i + 1) σ4 h4 c4 (of_decide_eq_true w.1) (Nat.eq_of_beq_eq_true w.2) (by omega) (by omega)
    cases o with
    | nxt σ3 h3 => exact go σ3 h3 q'
    | cnt σ3 h3 => exact go σ3 h3 q'
    | _ => cases q'
end
/-- ahead of the loop: it begins in one of the states -/
def kI (S : List (St × LH)) (most cost : Nat) (σ : St) : IT → LH → Option Nat
  | .rng _ n, h => bif decide ((σ, h) ∈ S) && Nat.ble n most then some cost else none
  | _, _ => none
def kP (D1 : Hd (Option Nat)) (S : List (St × LH)) (it : II) (most cost : Nat) : SO → Option Nat
  | .nxt σ h => rI D1 it σ h (kI S most cost σ) (fun _ => none)
  | _ => none
/-- the case ends with True -/
def kT : SO → Option Nat
  | .ret (.bl true) _ => some 0
  | _ => none
section
variable {D1 : Hd (Option Nat)} {D2 : Hd Prop} (R : ∀ X, HRel X D1 D2) (g2 : D2.gc = gcT)
include R g2
theorem case_inv {S : List (St × LH)} {dead : List Nat} {j Dc E most d0 : Nat} {it : II} {pre body post : ISs} {σ0 : St} {h0 : LH} {k : SO → Prop}
    (hp : rSs D1 pre σ0 h0 (kP D1 S it most (most * Dc + E)) = some d0)
    (hc : ∀ p ∈ S, ∃ d, d ≤ Dc ∧ rSs D1 body (p.1.set j none) p.2 (kS S dead p.2.n) = some d)
    (he : ∀ p ∈ S, ∃ d, d ≤ E ∧ rSs D1 post p.1 p.2 kT = some d)
    (hk : ∀ h, k (.ret (.bl true) h)) (c : Nat) (hl : d0 ≤ c) : rSs D2 (pre.app (.cons (.for_ dead (.drop j) it body) post)) σ0 (h0.wc c) k := by
  rw [app_eq]
  refine relSs (R 0) pre _ _ _ _ _ (fun o d q c1 l1 => ?_) hp c (by omega)
  cases o with
  | nxt σ h =>
    show rS D2 (.for_ dead (.drop j) it body) σ (h.wc c1) _
    show rI D2 it σ (h.wc c1) (fun j' h1 => forR D2 dead j' h1.n (rG D2 (.drop j)) (rSs D2 body) (bound D2.T j' h1) 0 σ h1 _) _
    refine relI (R 0) it _ _ _ _ _ _ _ (fun j' h1 d1 q1 c2 l2 => ?_) (fun o d' z => by cases z) q c1 l1
    cases j' with
    | seq v l => cases q1
    | rng lo n =>
      have q1 : (bif decide ((σ, h1) ∈ S) && Nat.ble n most then some (most * Dc + E) else none) = some d1 := q1
      cases w : (decide ((σ, h1) ∈ S) && Nat.ble n most) with
      | false => rw [w] at q1; cases q1
      | true =>
        rw [w] at q1
        cases q1
        rw [Bool.and_eq_true] at w
        have hn := Nat.le_of_ble_eq_true w.2
        refine for_inv R g2 (S := S) (n := n) (Dc := Dc) (E := E) (fun p hp hb => by rw [← hb]; exact hc p hp) (fun p hp hb c3 l3 => ?_) n 0 σ h1 c2 (of_decide_eq_true w.1) rfl (by omega) ?_
        · obtain ⟨d, hd, q⟩ := he p hp
          refine relSs (R 0) post _ _ _ _ _ (fun o d' q' c' l' => ?_) q c3 (by omega)
          cases o with
          | ret v h' =>
            cases v with
            | bl b => cases b with
              | true => exact hk _
              | false => cases q'
            | _ => cases q'
          | _ => cases q'
        · have : n * Dc ≤ most * Dc := Nat.mul_le_mul_right _ hn
          omega
  | _ => cases q
end
end L3

/-! L3T: laws whose cells are gone through one by one. -/
set_option autoImplicit false
set_option linter.all false
set_option maxRecDepth 100000
set_option maxHeartbeats 4000000
namespace L3
open PySem PyProof.Rows L2

def cellIR (p q : Int) : ISs := (L3.ISs.cons (L3.IS.ite (L3.IE.prim (L3.P.lt) (L3.IEs.cons (L3.IE.var 1) (L3.IEs.cons (L3.IE.prim (L3.P.len) (L3.IEs.cons (L3.IE.var 0) (L3.IEs.nil))) (L3.IEs.nil)))) (L3.ISs.cons (L3.IS.ret (L3.IE.prim (L3.P.ix) (L3.IEs.cons (L3.IE.var 0) (L3.IEs.cons (L3.IE.var 1) (L3.IEs.nil))))) (L3.ISs.nil)) (L3.ISs.nil)) (L3.ISs.cons (L3.IS.ret (L3.IE.prim (L3.P.add) (L3.IEs.cons (L3.IE.prim (L3.P.mul) (L3.IEs.cons (L3.IE.con (L3.LV.int p)) (L3.IEs.cons (L3.IE.var 1) (L3.IEs.nil)))) (L3.IEs.cons (L3.IE.con (L3.LV.int q)) (L3.IEs.nil))))) (L3.ISs.nil)))
def boxIR (pr : Int) : ISs := (L3.ISs.cons (L3.IS.ret (L3.IE.prim (L3.P.lst) (L3.IEs.cons (L3.IE.prim (L3.P.max2) (L3.IEs.cons (L3.IE.con (L3.LV.int 0)) (L3.IEs.cons (L3.IE.prim (L3.P.sub) (L3.IEs.cons (L3.IE.var 0) (L3.IEs.cons (L3.IE.prim (L3.P.pow) (L3.IEs.cons (L3.IE.con (L3.LV.int 10)) (L3.IEs.cons (L3.IE.con (L3.LV.int 18)) (L3.IEs.nil)))) (L3.IEs.nil)))) (L3.IEs.nil)))) (L3.IEs.cons (L3.IE.prim (L3.P.mod) (L3.IEs.cons (L3.IE.var 0) (L3.IEs.cons (L3.IE.con (L3.LV.int pr)) (L3.IEs.nil)))) (L3.IEs.cons (L3.IE.con (L3.LV.int 0)) (L3.IEs.nil)))))) (L3.ISs.nil))
def lawIR (nc nb nl : Nat) (lo hi : Int) : ISs := (L3.ISs.cons (L3.IS.for_ [1] (L3.IG.name 1) (L3.II.rng1 (L3.IE.prim (L3.P.max2) (L3.IEs.cons (L3.IE.con (L3.LV.int lo)) (L3.IEs.cons (L3.IE.prim (L3.P.min2) (L3.IEs.cons (L3.IE.con (L3.LV.int hi)) (L3.IEs.cons (L3.IE.prim (L3.P.len) (L3.IEs.cons (L3.IE.var 0) (L3.IEs.nil))) (L3.IEs.nil)))) (L3.IEs.nil))))) (L3.ISs.cons (L3.IS.ite (L3.IE.prim (L3.P.not) (L3.IEs.cons (L3.IE.call nc (L3.IEs.cons (L3.IE.call nb (L3.IEs.cons (L3.IE.call nl (L3.IEs.cons (L3.IE.var 0) (L3.IEs.cons (L3.IE.var 1) (L3.IEs.nil))) []) (L3.IEs.nil)) []) (L3.IEs.nil)) []) (L3.IEs.nil))) (L3.ISs.cons (L3.IS.ret (L3.IE.con (L3.LV.bl false))) (L3.ISs.nil)) (L3.ISs.nil)) (L3.ISs.nil))) (L3.ISs.cons (L3.IS.ret (L3.IE.con (L3.LV.bl true))) (L3.ISs.nil)))
def cellFn (p q : Int) : Fn := ⟨2, 2, cellIR p q⟩
def boxFn (pr : Int) : Fn := ⟨1, 1, boxIR pr⟩
def lawFn (nc nb nl : Nat) (lo hi : Int) : Fn := ⟨1, 2, lawIR nc nb nl lo hi⟩
section
variable {D : Hd Prop}
theorem cell_ok {p q : Int} (hp : small p = true) {ns : List Int} {i : Nat} {h : LH} {k : LV → LH → Prop} {x : XO → Prop} (e : h.get 0 = some (.rol ns)) (hk : ∀ z, k (.int z) h) : bodyR D (cellFn p q) [.ref 0, .int (i : Int)] h k x := by
  show rSs D (cellIR p q) [some (.ref 0), some (.int (i : Int))] h (endS k x)
  have el : lenOf D.T h (.ref 0) = some ns.length := by
    show (match h.get 0 with
      | some (.lst xs) => some xs.length
      | some (.tup xs) => some xs.length
      | some (.dic kvs) => some kvs.length
      | some (.rol ns) => some ns.length
      | _ => none) = _
    rw [e]
  have e0 : un D.T .len (.ref 0) h = okn (.int ns.length) h := by
    show (match lenOf D.T h (.ref 0) with
      | some n => okn (.int n) h
      | none => none) = _
    rw [el]
  by_cases hi : i < ns.length
  · have e1 : bin D.T .lt (.int (i : Int)) (.int (ns.length : Int)) h = okn (.bl true) h := by show okn (.bl (decide ((i : Int) < (ns.length : Int)))) h = _; rw [decide_eq_true (by omega)]
    have e2 : bin D.T .ix (.ref 0) (.int (i : Int)) h = okn (.int ns[i]) h := by
      show (match h.get 0 with
        | some (.dic kvs) => match getD (.int (i : Int)) kvs with
          | some v => okn v h
          | none => none
        | _ => match seqOf D.T h (.ref 0) with
          | some xs => match atI xs (i : Int) with
            | some v => okn v h
            | none => none
          | none => none) = _
      have s : seqOf D.T h (.ref 0) = some (ns.map .int) := by
        show (match h.get 0 with | some (.lst xs) => some xs | some (.tup xs) => some xs | some (.rol ns) => some (ns.map .int) | _ => none) = _
        rw [e]
      rw [s, e]
      dsimp only
      rw [atI_nat (by simpa using hi), List.getElem?_map, List.getElem?_eq_getElem hi]
      rfl
    simp only [cellIR, rSs, rS, rE, rEs, prim, List.getElem?_cons_zero, List.getElem?_cons_succ, e0, okn, e1, e2]
    exact hk _
  · have e1 : bin D.T .lt (.int (i : Int)) (.int (ns.length : Int)) h = okn (.bl false) h := by show okn (.bl (decide ((i : Int) < (ns.length : Int)))) h = _; rw [decide_eq_false (by omega)]
    have e2 : bin D.T .mul (.int p) (.int (i : Int)) h = okn (.int (p * i)) h := by
      show (bif small p || small (i : Int) then okn (.int (p * i)) h else none) = _
      rw [hp]; rfl
    have e3 : bin D.T .add (.int (p * i)) (.int q) h = okn (.int (p * i + q)) h := rfl
    simp only [cellIR, rSs, rS, rE, rEs, prim, List.getElem?_cons_zero, List.getElem?_cons_succ, e0, okn, e1, e2, e3]
    exact hk _
theorem box_ok {pr : Int} (h0 : 0 < pr) (h1 : pr < 2 ^ 31) {z : Int} {h : LH} {k : LV → LH → Prop} {x : XO → Prop} (hk : ∀ u v : Int, 0 ≤ v → v < 2 ^ 31 → k (.ref h.n) (h.put (.lst [.int u, .int v, .int 0]))) : bodyR D (boxFn pr) [.int z] h k x := by
  show rSs D (boxIR pr) [some (.int z)] h (endS k x)
  obtain ⟨t, et⟩ : ∃ t : Int, t = 10 ^ 18 := ⟨_, rfl⟩
  have e1 : bin D.T .pow (.int 10) (.int 18) h = okn (.int t) h := by
    rw [et]
    show (bif decide ((0 : Int) ≤ 18) && decide ((18 : Int) ≤ 1000000) && Nat.blt (10 : Int).natAbs (2 ^ 64) then okn (.int ((10 : Int) ^ (18 : Int).toNat)) h else none) = _
    rw [show (decide ((0 : Int) ≤ 18) && decide ((18 : Int) ≤ 1000000) && Nat.blt (10 : Int).natAbs (2 ^ 64)) = true from by decide +kernel]
    rfl
  have e2 : bin D.T .sub (.int z) (.int t) h = okn (.int (z - t)) h := rfl
  have e3 : bin D.T .max2 (.int 0) (.int (z - t)) h = okn (.int (max 0 (z - t))) h := rfl
  have e4 : bin D.T .mod (.int z) (.int pr) h = okn (.int (z % pr)) h := by show (bif decide (0 < pr) then okn (.int (z % pr)) h else none) = _; rw [decide_eq_true h0]; rfl
  have e5 : fits ([.int (max 0 (z - t)), .int (z % pr), .int 0] : List LV).length = true := rfl
  simp only [boxIR, rSs, rS, rE, rEs, prim, List.getElem?_cons_zero, e1, e2, e3, e4, okn, e5, cond]
  exact hk _ _ (Int.emod_nonneg _ (by omega)) (by have := Int.emod_lt_of_pos z h0; omega)
/-- a case: begun at a box just made, ended with True -/
def caseP (CC : Nat) : Spc Prop := fun vs h k x => (∃ (i j : Int) (ns : List Int) (c : Nat), vs = [.ref 1] ∧ h = ⟨2, [.lst [.int i, .int j, .int 0], .rol ns], c⟩ ∧ (0 ≤ j ∧ j < 2 ^ 31) ∧ (CC ≤ c ∧ c ≤ 2 ^ 40) ∧ k (.bl true) ⟨2, [.gone, .rol ns], c⟩) ∨ x .bad
theorem case_ok {T : Tab} {Fs : List Fn} {sp : Nat → Nat → Option (Spc Prop)} {gc : Nat → (St → LH → Prop) → St → LH → Prop} {fn : Fn} {CC n : Nat} (hnp : fn.np = 1) (hcase : ∀ c, CC ≤ c → bodyR (callN T Fs sp gc n) fn [.ref 0] ⟨1, [.box 3], c⟩ (fun v _ => v = .bl true) (fun _ => False))
    (vs : List LV) (h : LH) (k : LV → LH → Prop) (x : XO → Prop) (q : caseP CC vs h k x) (nb : ¬ x .bad) : vs.length = fn.np ∧
    ∀ (K : PySem.W.Frag) (ρ : Nat → Addr) (H : Hp), Rep T K ρ h H → (∀ v ∈ vs, inb h.n v) → ∃ vs2 ρ2 h2 k2 x2, vs2.map (vx T K ρ2) = vs.map (vx T K ρ) ∧ (∀ v ∈ vs2, inb h2.n v) ∧ Rep T K ρ2 h2 H ∧ bodyR (callN T Fs sp gc n) fn vs2 h2 k2 x2 ∧
      (∀ Q, KOk T K ρ h H Q k → KOk T K ρ2 h2 H Q k2) ∧ ∀ E, XOk T K ρ h H E x → XOk T K ρ2 h2 H E x2 := by
  rcases q with ⟨i, j, ns, c, rfl, rfl, hj, hc, hk⟩ | q
  · refine ⟨hnp.symm, fun K ρ H r iv => ?_⟩
    refine ⟨[.ref 0], fun _ => ρ 1, ⟨1, [.box 3], c⟩, fun v _ => v = .bl true, fun _ => False, rfl, fun v hv => ?_, ⟨rfl, fun a o e => ?_, fun a b ha hb _ => ?_⟩, hcase c hc.1, fun Q hQ v h' ev ρ' H' g i' => ?_, fun E hx o z => z.elim⟩
    · rw [List.mem_singleton.mp hv]; exact Nat.zero_lt_one
    · have ha : a < 1 := get_lt e
      have : a = 0 := by omega
      subst this
      cases e
      obtain ⟨u, hu, q⟩ := r.obj 1 _ rfl
      exact ⟨u, hu, [i, j, 0], ⟨⟨rfl, by show 3 ≤ 8; omega⟩, show 0 ≤ j ∧ j < 2 ^ 31 ∧ (0 : Int) ≤ 0 ∧ (0 : Int) + (c : Int) ≤ 2 ^ 40 from ⟨hj.1, hj.2, by omega, by omega⟩⟩, q.2.2⟩
    · have ha : a < 1 := ha
      have hb : b < 1 := hb
      omega
    · subst ev
      have n01 : ρ 0 ≠ ρ 1 := fun z => by have := r.inj 0 1 (show 0 < 2 by omega) (show 1 < 2 by omega) z; omega
      have h1' : 1 ≤ h'.n := g.le
      have e1 : ρ' 0 = ρ 1 := g.ext 0 (show 0 < 1 by omega)
      obtain ⟨u0, hu0, q0⟩ := r.obj 0 _ rfl
      have k0 : H' (ρ 0) = some u0 := g.fr.keep _ _ hu0 fun a _ z => n01 z.symm
      obtain ⟨u1, hu1⟩ := g.rep.at (a := 0) h1'
      rw [e1] at hu1
      refine hQ (.bl true) ⟨2, [.gone, .rol ns], c⟩ hk ρ H' ⟨.refl _ _, Nat.le_refl _, ⟨rfl, fun a o e => ?_, r.inj⟩, ⟨fun b o e hb => g.fr.keep b o e fun a _ => hb 1 (show 1 < 2 by omega), fun a ha => .inl ⟨a, ha, rfl⟩⟩⟩ trivial
      have ha : a < 2 := get_lt e
      have : a = 0 ∨ a = 1 := by omega
      rcases this with rfl | rfl
      · cases e
        exact ⟨u0, k0, q0⟩
      · cases e
        exact ⟨u1, hu1, trivial⟩
  · exact (nb q).elim
theorem law_ok {D' : Hd Prop} {nc nb nl CC : Nat} {lo hi p q pr : Int} (g : D.gc = gcT) (hcell : ∀ vs h k x, D.call nl vs h k x = bodyR D' (cellFn p q) vs h k x) (hbox : ∀ vs h k x, D.call nb vs h k x = bodyR D' (boxFn pr) vs h k x) (hcase : ∀ vs h k x, caseP CC vs h k x → D.call nc vs h k x)
    (hp : small p = true) (h0 : 0 < pr) (h1 : pr < 2 ^ 31) (hlo : 0 ≤ lo ∧ lo ≤ 100) (hhi : hi ≤ 100) {ns : List Int} (hns : ns.length ≤ 63) {c : Nat} (hc : CC ≤ c ∧ c ≤ 2 ^ 40) : bodyR D (lawFn nc nb nl lo hi) [.ref 0] ⟨1, [.rol ns], c⟩ (fun v _ => v = .bl true) (fun _ => False) := by
  show rSs D (lawIR nc nb nl lo hi) [some (.ref 0), none] ⟨1, [.rol ns], c⟩ (endS (fun v _ => v = .bl true) (fun _ => False))
  obtain ⟨h, eh⟩ : ∃ h : LH, h = ⟨1, [.rol ns], c⟩ := ⟨_, rfl⟩
  rw [← eh]
  have e0 : un D.T .len (.ref 0) h = okn (.int ns.length) h := by rw [eh]; rfl
  have e1 : bin D.T .min2 (.int hi) (.int ns.length) h = okn (.int (min hi ns.length)) h := rfl
  have e2 : bin D.T .max2 (.int lo) (.int (min hi ns.length)) h = okn (.int (max lo (min hi ns.length))) h := rfl
  obtain ⟨t, et⟩ : ∃ t : Int, t = max lo (min hi ns.length) := ⟨_, rfl⟩
  have e3 : (decide (-(2 ^ 62) ≤ t) && decide (t < 2 ^ 62)) = true := by
    rw [Bool.and_eq_true]
    exact ⟨decide_eq_true (by omega), decide_eq_true (by omega)⟩
  have turn1 : ∀ (i : Nat) (K : SO → Prop), K (.nxt [some (.ref 0), some (.int (i : Int))] ⟨2, [.gone, .rol ns], c⟩) → rSs D (.cons (.ite (.prim .not (.cons (.call nc (.cons (.call nb (.cons (.call nl (.cons (.var 0) (.cons (.var 1) .nil)) []) .nil) []) .nil) []) .nil)) (.cons (.ret (.con (.bl false))) .nil) .nil) .nil) [some (.ref 0), some (.int (i : Int))] h K := by
    intro i K hK
    simp only [rSs, rS, rE, rEs, prim, List.getElem?_cons_zero, List.getElem?_cons_succ, List.append_nil]
    rw [hcell]
    refine cell_ok hp (by rw [eh]; rfl) fun z => ?_
    rw [hbox]
    refine box_ok h0 h1 fun u v hv hv2 => ?_
    have ec : (LV.ref h.n) = .ref 1 := by rw [eh]
    rw [ec]
    have eput : h.put (.lst [.int u, .int v, .int 0]) = ⟨2, [.lst [.int u, .int v, .int 0], .rol ns], c⟩ := by rw [eh]; rfl
    rw [eput]
    exact hcase _ _ _ _ (.inl ⟨u, v, ns, c, rfl, rfl, ⟨hv, hv2⟩, hc, hK⟩)
  have loop : ∀ (m i : Nat), m + i = t.toNat → ∀ k : SO → Prop, k (.nxt [some (.ref 0), none] h) → forR D [1] (.rng 0 t.toNat) 1 (rG D (.name 1)) (rSs D (.cons (.ite (.prim .not (.cons (.call nc (.cons (.call nb (.cons (.call nl (.cons (.var 0) (.cons (.var 1) .nil)) []) .nil) []) .nil) []) .nil)) (.cons (.ret (.con (.bl false))) .nil) .nil) .nil)) m i [some (.ref 0), none] h k := by
    intro m
    induction m with
    | zero =>
      intro i hi' k hk
      unfold forR
      have e : turn D.T (.rng 0 t.toNat) i h = .stop := by
        show (bif Nat.blt i t.toNat then TR.next _ _ else .stop) = _
        have : Nat.blt i t.toNat = false := by
          cases z : Nat.blt i t.toNat with
          | false => rfl
          | true => have := Nat.le_of_ble_eq_true z; omega
        rw [this]; rfl
      rw [e]
      exact hk
    | succ m ih =>
      intro i hi' k hk
      unfold forR
      have e : turn D.T (.rng 0 t.toNat) i h = .next (.int (i : Int)) h := by
        show (bif Nat.blt i t.toNat then TR.next (.int (0 + (i : Int))) h else .stop) = _
        rw [show Nat.blt i t.toNat = true from Nat.ble_eq_true_of_le (by omega)]
        show TR.next (.int (0 + (i : Int))) h = _
        rw [Int.zero_add]
      rw [e]
      refine turn1 i _ ?_
      have z := ih (i + 1) (by omega) k hk
      rw [eh] at z
      rw [g]
      exact z
  simp only [lawIR, rSs, rS, rE, rEs, rI, prim, List.getElem?_cons_zero, e0, e1, e2, okn, ← et, e3, cond]
  have eb : bound D.T (.rng 0 t.toNat) h = t.toNat := rfl
  have en : h.n = 1 := by rw [eh]
  rw [eb, en]
  exact loop t.toNat 0 rfl _ rfl
end
end L3

/-! L3U: a call that leaves a box and one object as they are. -/
set_option autoImplicit false
set_option linter.all false
set_option maxRecDepth 100000
set_option maxHeartbeats 4000000
namespace L3
open PySem PyProof.Rows L2

def preOf : ISs → ISs
  | .cons (.for_ _ _ _ _) _ => .nil
  | .cons s ss => .cons s (preOf ss)
  | .nil => .nil
def loopOf : ISs → Option (List Nat × Nat × II × ISs)
  | .cons (.for_ d (.drop j) it b) _ => some (d, j, it, b)
  | .cons _ ss => loopOf ss
  | .nil => none
def postOf : ISs → ISs
  | .cons (.for_ _ _ _ _) ss => ss
  | .cons _ ss => postOf ss
  | .nil => .nil

/-- f(box, x, o): nothing changes; WL: the classes and words of o -/
def sameN (WL : List (Nat × S)) (CC : Nat) : Spc (Option Nat) := fun vs h k x => match vs with
  | [.ref b, _, .ref e] => (match h.get b, h.get e with
    | some (.box 3), some (.ins cl [(0, .str w)]) => bif decide ((cl, w) ∈ WL) then (match k .non h with
      | some d => some (d + CC)
      | none => none) else none
    | _, _ => none)
  | _ => none
def sameP (WL : List (Nat × S)) (CC : Nat) : Spc Prop := fun vs h k x => ∃ b u e cl w c, vs = [.ref b, u, .ref e] ∧ flat u = true ∧ h.get b = some (.box 3) ∧ h.get e = some (.ins cl [(0, .str w)]) ∧ (cl, w) ∈ WL ∧ h.c = c + CC ∧ k .non (h.wc c)
def sameN' (WL : List (Nat × S)) (CC : Nat) : Spc (Option Nat) := fun vs h k x => match vs with
  | [_, u, _] => bif flat u then sameN WL CC vs h k x else none
  | _ => none
theorem same_rel {X : Nat} {WL : List (Nat × S)} {CC : Nat} : ∀ vs h k x k' x' d, KR X k k' → XR X x x' → sameN' WL CC vs h k x = some d → ∀ c, d + X ≤ c → sameP WL CC vs (h.wc c) k' x' := by
  intro vs h k x k' x' d kr xr q c l
  unfold sameN' at q
  split at q
  · rename_i a u b'
    cases fu : flat u with
    | false => rw [fu] at q; cases q
    | true =>
      rw [fu] at q
      dsimp only [cond] at q
      unfold sameN at q
      split at q
      · rename_i b u' e ev
        cases ev
        split at q
        · rename_i cl w e1 e2
          cases m : decide ((cl, w) ∈ WL) with
          | false => rw [m] at q; cases q
          | true =>
            rw [m] at q
            dsimp only [cond] at q
            cases kd : k .non h with
            | none => rw [kd] at q; cases q
            | some d0 =>
              rw [kd] at q
              cases q
              exact ⟨b, u, e, cl, w, c - CC, rfl, fu, e1, e2, of_decide_eq_true m, by show c = _; omega, kr _ _ _ kd (c - CC) (by omega)⟩
        · cases q
      · cases q
  · cases q
/-- what the body is to be shown to do -/
def kSame (cl : Nat) (w : S) : LV → LH → Option Nat := fun v h => bif decide (v = .non) && decide (h.get 0 = some (.box 3)) && decide (h.get 1 = some (.ins cl [(0, .str w)])) then some 0 else none
theorem same_ok {D1 : Hd (Option Nat)} {T : Tab} {Fs : List Fn} {sp : Nat → Nat → Option (Spc Prop)} {gc : Nat → (St → LH → Prop) → St → LH → Prop} {fn : Fn} {WL : List (Nat × S)} {CC n : Nat} (R : ∀ X, HRel X D1 (callN T Fs sp gc n)) (hnp : fn.np = 3)
    (hc : ∀ p ∈ WL, ∀ u, flat u = true → ∃ d, d ≤ CC ∧ bodyR D1 fn [.ref 0, u, .ref 1] ⟨2, [.ins p.1 [(0, .str p.2)], .box 3], 0⟩ (kSame p.1 p.2) (fun _ => none) = some d)
    (vs : List LV) (h : LH) (k : LV → LH → Prop) (x : XO → Prop) (q : sameP WL CC vs h k x) (nb : ¬ x .bad) : vs.length = fn.np ∧
    ∀ (K : PySem.W.Frag) (ρ : Nat → Addr) (H : Hp), Rep T K ρ h H → (∀ v ∈ vs, inb h.n v) → ∃ vs2 ρ2 h2 k2 x2, vs2.map (vx T K ρ2) = vs.map (vx T K ρ) ∧ (∀ v ∈ vs2, inb h2.n v) ∧ Rep T K ρ2 h2 H ∧ bodyR (callN T Fs sp gc n) fn vs2 h2 k2 x2 ∧
      (∀ Q, KOk T K ρ h H Q k → KOk T K ρ2 h2 H Q k2) ∧ ∀ E, XOk T K ρ h H E x → XOk T K ρ2 h2 H E x2 := by
  obtain ⟨b, u, e, cl, w, c, rfl, fu, eb, ee, mem, hcc, hk⟩ := q
  refine ⟨hnp.symm, fun K ρ H r iv => ?_⟩
  have hb := get_lt eb
  have he := get_lt ee
  have nbe : b ≠ e := fun z => by rw [z, ee] at eb; cases eb
  obtain ⟨d, hd, run⟩ := hc _ mem u fu
  let ρ2 : Nat → Addr := fun a => if a = 0 then ρ b else ρ e
  refine ⟨[.ref 0, u, .ref 1], ρ2, ⟨2, [.ins cl [(0, .str w)], .box 3], h.c⟩, fun v h' => v = .non ∧ h'.get 0 = some (.box 3) ∧ h'.get 1 = some (.ins cl [(0, .str w)]) ∧ c ≤ h'.c, fun _ => False, ?_, fun v hv => ?_, ⟨rfl, fun a o ea => ?_, fun x y hx hy z => ?_⟩, ?_, fun Q hQ v h' ev ρ' H' g i' => ?_, fun E hx o z => z.elim⟩
  · show [V.ref (ρ b), vx T K ρ2 u, V.ref (ρ e)] = [V.ref (ρ b), vx T K ρ u, V.ref (ρ e)]
    rw [flat_vx fu ρ2 ρ]
  · rcases List.mem_cons.mp hv with z | hv
    · rw [z]; exact (show 0 < 2 by omega)
    · rcases List.mem_cons.mp hv with z | hv
      · rw [z]; exact flat_inb fu _
      · rw [List.mem_singleton.mp hv]; exact (show 1 < 2 by omega)
  · have ha : a < 2 := get_lt ea
    have : a = 0 ∨ a = 1 := by omega
    rcases this with rfl | rfl
    · cases ea
      obtain ⟨u0, hu, q⟩ := r.obj b _ eb
      exact ⟨u0, hu, q⟩
    · cases ea
      obtain ⟨u0, hu, ⟨oc, q1⟩, dx, q2⟩ := r.obj e _ ee
      exact ⟨u0, hu, ⟨oc, fun p hp => by rw [List.mem_singleton.mp hp]; trivial⟩, dx, q2⟩
  · have hx : x < 2 := hx
    have hy : y < 2 := hy
    have z' : ρ b ≠ ρ e := fun z => nbe (r.inj b e hb he z)
    have : (x = 0 ∨ x = 1) ∧ (y = 0 ∨ y = 1) := by omega
    rcases this with ⟨rfl | rfl, rfl | rfl⟩
    · rfl
    · exact absurd z z'
    · exact absurd z.symm z'
    · rfl
  · refine rel_body (R c) (fun v h' d' q' c' l' => ?_) (fun o d' z => by cases z) run h.c (by omega)
    unfold kSame at q'
    cases z : (decide (v = .non) && decide (h'.get 0 = some (.box 3)) && decide (h'.get 1 = some (.ins cl [(0, .str w)]))) with
    | false => rw [z] at q'; cases q'
    | true =>
      rw [Bool.and_eq_true, Bool.and_eq_true] at z
      exact ⟨of_decide_eq_true z.1.1, of_decide_eq_true z.1.2, of_decide_eq_true z.2, by show c ≤ c'; omega⟩
  · obtain ⟨rfl, g0, g1, gc'⟩ := ev
    have e0 : ρ' 0 = ρ b := g.ext 0 (show 0 < 2 by omega)
    have e1 : ρ' 1 = ρ e := g.ext 1 (show 1 < 2 by omega)
    obtain ⟨u0, hu0, q0⟩ := g.rep.obj 0 _ g0
    obtain ⟨u1, hu1, ⟨oc, q1⟩, dx, q2⟩ := g.rep.obj 1 _ g1
    rw [e0] at hu0
    rw [e1] at hu1
    refine hQ .non (h.wc c) hk ρ H' ⟨.refl _ _, Nat.le_refl _, ⟨r.len, fun a o ea => ?_, r.inj⟩, ⟨fun b' o ob hb' => g.fr.keep b' o ob fun a ha => ?_, fun a ha => .inl ⟨a, ha, rfl⟩⟩⟩ trivial
    · have ea : h.get a = some o := ea
      by_cases zb : a = b
      · subst zb
        rw [eb] at ea
        cases ea
        obtain ⟨ns, ⟨h1, h2⟩, h3⟩ := q0
        exact ⟨u0, hu0, ns, ⟨h1, bxOk_mono gc' h2⟩, h3⟩
      · by_cases ze : a = e
        · subst ze
          rw [ee] at ea
          cases ea
          exact ⟨u1, hu1, ⟨oc, fun p hp => by rw [List.mem_singleton.mp hp]; trivial⟩, dx, q2⟩
        · obtain ⟨u2, hu2, q3⟩ := r.obj a o ea
          refine ⟨u2, g.fr.keep _ _ hu2 fun a' ha' z => ?_, ro_mono (.refl _ _) (Nat.le_refl _) (by show c ≤ h.c; omega) q3⟩
          have ha' : a' < 2 := ha'
          have : a' = 0 ∨ a' = 1 := by omega
          rcases this with rfl | rfl
          · exact zb (r.inj a b (get_lt ea) hb z.symm)
          · exact ze (r.inj a e (get_lt ea) he z.symm)
    · have ha : a < 2 := ha
      have : a = 0 ∨ a = 1 := by omega
      rcases this with rfl | rfl
      · exact hb' b hb
      · exact hb' e he
end L3

set_option Elab.async false
set_option maxRecDepth 100000
set_option maxHeartbeats 0
set_option linter.all false
namespace Tb
open PySem PySem.Spec PyProof.Rows L2
def top (i : Nat) : Stmt := PySem.Challenge.pw_twocabins_k25_whole_rung_again_heard_twi.main.body.getD i (.Pass ⟨0, 0, 0, 0⟩)
def mem (s : Stmt) (j : Nat) : Stmt := match s with
  | .ClassDef _ _ _ b _ _ _ _ _ _ _ => b.getD j (.Pass ⟨0, 0, 0, 0⟩)
  | _ => .Pass ⟨0, 0, 0, 0⟩
abbrev s0 : Stmt := top 6
def F0 : L3.FnI := ⟨("bell_words", none), ([] : List PySem.Str), ([] : List L3.LV)⟩
def N0 : List PySem.Str := ([] : List PySem.Str)
abbrev s1 : Stmt := top 8
def F1 : L3.FnI := ⟨("fore_words", none), ([] : List PySem.Str), ([] : List L3.LV)⟩
def N1 : List PySem.Str := ([] : List PySem.Str)
abbrev s2 : Stmt := top 9
def F2 : L3.FnI := ⟨("hind_words", none), ([] : List PySem.Str), ([] : List L3.LV)⟩
def N2 : List PySem.Str := ([] : List PySem.Str)
abbrev s3 : Stmt := top 10
def F3 : L3.FnI := ⟨("need_word", none), (["thing", "words"] : List PySem.Str), ([] : List L3.LV)⟩
def N3 : List PySem.Str := (["thing", "words"] : List PySem.Str)
abbrev s4 : Stmt := top 15
def F4 : L3.FnI := ⟨("_law_cell", none), (["_law_script", "_law_k"] : List PySem.Str), ([] : List L3.LV)⟩
def N4 : List PySem.Str := (["_law_script", "_law_k"] : List PySem.Str)
abbrev s5 : Stmt := top 16
def F5 : L3.FnI := ⟨("_law_box", none), (["_law_cell_here"] : List PySem.Str), ([] : List L3.LV)⟩
def N5 : List PySem.Str := (["_law_cell_here"] : List PySem.Str)
abbrev s6 : Stmt := top 17
def F6 : L3.FnI := ⟨("_law_take", none), (["_law_box_here", "_law_many"] : List PySem.Str), ([] : List L3.LV)⟩
def N6 : List PySem.Str := (["_law_box_here", "_law_many", "_law_digit", "_law_number"] : List PySem.Str)
abbrev s7 : Stmt := top 18
def F7 : L3.FnI := ⟨("_law_words", none), (["_law_kind"] : List PySem.Str), ([] : List L3.LV)⟩
def N7 : List PySem.Str := (["_law_kind", "_law_fores"] : List PySem.Str)
abbrev s8 : Stmt := top 19
def F8 : L3.FnI := ⟨("_law_moved", none), (["_law_end", "_law_way", "_law_bell"] : List PySem.Str), ([] : List L3.LV)⟩
def N8 : List PySem.Str := (["_law_end", "_law_way", "_law_bell"] : List PySem.Str)
abbrev s9 : Stmt := top 20
def F9 : L3.FnI := ⟨("_law_moves", none), (["_law_kind", "_law_end"] : List PySem.Str), ([] : List L3.LV)⟩
def N9 : List PySem.Str := (["_law_kind", "_law_end", "_law_moves_here", "_law_bell"] : List PySem.Str)
abbrev s10 : Stmt := top 21
def F10 : L3.FnI := ⟨("_law_seen", none), (["_law_end"] : List PySem.Str), ([] : List L3.LV)⟩
def N10 : List PySem.Str := (["_law_end"] : List PySem.Str)
abbrev s11 : Stmt := top 22
def F11 : L3.FnI := ⟨("_law_idle", none), (["_law_box_here", "_law_kind", "_law_end"] : List PySem.Str), ([] : List L3.LV)⟩
def N11 : List PySem.Str := (["_law_box_here", "_law_kind", "_law_end", "_law_turn", "_law_bell", "_law_probe"] : List PySem.Str)
abbrev s12 : Stmt := top 23
def F12 : L3.FnI := ⟨("_law_case", none), (["_law_box_here"] : List PySem.Str), ([] : List L3.LV)⟩
def N12 : List PySem.Str := (["_law_box_here", "_law_kind", "_law_word", "_law_end", "_law_other", "_law_turn", "_law_moves_here", "_law_way", "_law_bell", "_law_many", "_law_again"] : List PySem.Str)
abbrev s13 : Stmt := top 24
def F13 : L3.FnI := ⟨("law", none), (["_law_script"] : List PySem.Str), ([] : List L3.LV)⟩
def N13 : List PySem.Str := (["_law_script", "_law_k"] : List PySem.Str)
abbrev s14 : Stmt := mem (top 11) 0
def F14 : L3.FnI := ⟨("End", some "__init__"), (["self", "word", "words"] : List PySem.Str), ([] : List L3.LV)⟩
def N14 : List PySem.Str := (["self", "word", "words"] : List PySem.Str)
abbrev s15 : Stmt := mem (top 11) 1
def F15 : L3.FnI := ⟨("End", some "word"), (["self"] : List PySem.Str), ([] : List L3.LV)⟩
def N15 : List PySem.Str := (["self"] : List PySem.Str)
abbrev s16 : Stmt := mem (top 11) 2
def F16 : L3.FnI := ⟨("End", some "behind_ring"), (["self", "bell"] : List PySem.Str), ([] : List L3.LV)⟩
def N16 : List PySem.Str := (["self", "bell"] : List PySem.Str)
abbrev s17 : Stmt := mem (top 11) 3
def F17 : L3.FnI := ⟨("End", some "behind_hearing"), (["self", "bell"] : List PySem.Str), ([] : List L3.LV)⟩
def N17 : List PySem.Str := (["self", "bell"] : List PySem.Str)
abbrev s18 : Stmt := mem (top 11) 4
def F18 : L3.FnI := ⟨("End", some "is_resting"), (["self"] : List PySem.Str), ([] : List L3.LV)⟩
def N18 : List PySem.Str := (["self"] : List PySem.Str)
abbrev s19 : Stmt := mem (top 11) 5
def F19 : L3.FnI := ⟨("End", some "rings"), (["self"] : List PySem.Str), ([] : List L3.LV)⟩
def N19 : List PySem.Str := (["self", "bell"] : List PySem.Str)
abbrev s20 : Stmt := mem (top 11) 6
def F20 : L3.FnI := ⟨("End", some "rung"), (["self", "bell"] : List PySem.Str), ([] : List L3.LV)⟩
def N20 : List PySem.Str := (["self", "bell"] : List PySem.Str)
abbrev s21 : Stmt := mem (top 11) 7
def F21 : L3.FnI := ⟨("End", some "hears"), (["self", "bell"] : List PySem.Str), ([] : List L3.LV)⟩
def N21 : List PySem.Str := (["self", "bell"] : List PySem.Str)
abbrev s22 : Stmt := mem (top 11) 8
def F22 : L3.FnI := ⟨("End", some "go_on"), (["self", "word", "deed"] : List PySem.Str), ([] : List L3.LV)⟩
def N22 : List PySem.Str := (["self", "word", "deed"] : List PySem.Str)
abbrev s23 : Stmt := mem (top 12) 0
def F23 : L3.FnI := ⟨("Fore", some "__init__"), (["self", "word"] : List PySem.Str), ([L3.LV.str [114, 101, 115, 116]] : List L3.LV)⟩
def N23 : List PySem.Str := (["self", "word"] : List PySem.Str)
abbrev s24 : Stmt := mem (top 12) 1
def F24 : L3.FnI := ⟨("Fore", some "behind_ring"), (["self", "bell"] : List PySem.Str), ([] : List L3.LV)⟩
def N24 : List PySem.Str := (["self", "bell"] : List PySem.Str)
abbrev s25 : Stmt := mem (top 12) 2
def F25 : L3.FnI := ⟨("Fore", some "behind_hearing"), (["self", "bell"] : List PySem.Str), ([] : List L3.LV)⟩
def N25 : List PySem.Str := (["self", "bell"] : List PySem.Str)
abbrev s26 : Stmt := mem (top 12) 3
def F26 : L3.FnI := ⟨("Fore", some "enters"), (["self"] : List PySem.Str), ([] : List L3.LV)⟩
def N26 : List PySem.Str := (["self"] : List PySem.Str)
abbrev s27 : Stmt := mem (top 12) 4
def F27 : L3.FnI := ⟨("Fore", some "returned"), (["self"] : List PySem.Str), ([] : List L3.LV)⟩
def N27 : List PySem.Str := (["self"] : List PySem.Str)
abbrev s28 : Stmt := mem (top 12) 5
def F28 : L3.FnI := ⟨("Fore", some "twin"), (["self"] : List PySem.Str), ([] : List L3.LV)⟩
def N28 : List PySem.Str := (["self"] : List PySem.Str)
abbrev s29 : Stmt := mem (top 12) 6
def F29 : L3.FnI := ⟨("Fore", some "same"), (["self", "thing"] : List PySem.Str), ([] : List L3.LV)⟩
def N29 : List PySem.Str := (["self", "thing"] : List PySem.Str)
abbrev s30 : Stmt := mem (top 13) 0
def F30 : L3.FnI := ⟨("Hind", some "__init__"), (["self", "word"] : List PySem.Str), ([L3.LV.str [114, 101, 115, 116]] : List L3.LV)⟩
def N30 : List PySem.Str := (["self", "word"] : List PySem.Str)
abbrev s31 : Stmt := mem (top 13) 1
def F31 : L3.FnI := ⟨("Hind", some "behind_ring"), (["self", "bell"] : List PySem.Str), ([] : List L3.LV)⟩
def N31 : List PySem.Str := (["self", "bell"] : List PySem.Str)
abbrev s32 : Stmt := mem (top 13) 2
def F32 : L3.FnI := ⟨("Hind", some "behind_hearing"), (["self", "bell"] : List PySem.Str), ([] : List L3.LV)⟩
def N32 : List PySem.Str := (["self", "bell"] : List PySem.Str)
abbrev s33 : Stmt := mem (top 13) 3
def F33 : L3.FnI := ⟨("Hind", some "is_resting"), (["self"] : List PySem.Str), ([] : List L3.LV)⟩
def N33 : List PySem.Str := (["self"] : List PySem.Str)
abbrev s34 : Stmt := mem (top 13) 4
def F34 : L3.FnI := ⟨("Hind", some "tail_seen"), (["self"] : List PySem.Str), ([] : List L3.LV)⟩
def N34 : List PySem.Str := (["self"] : List PySem.Str)
abbrev s35 : Stmt := mem (top 13) 5
def F35 : L3.FnI := ⟨("Hind", some "twin"), (["self"] : List PySem.Str), ([] : List L3.LV)⟩
def N35 : List PySem.Str := (["self"] : List PySem.Str)
abbrev s36 : Stmt := mem (top 13) 6
def F36 : L3.FnI := ⟨("Hind", some "same"), (["self", "thing"] : List PySem.Str), ([] : List L3.LV)⟩
def N36 : List PySem.Str := (["self", "thing"] : List PySem.Str)
def tl : L3.TL where
  gns := (["WORDS", "End", "Fore", "Hind"] : List PySem.Str)
  fds := (["stands"] : List PySem.Str)
  mns := (["word", "behind_ring", "behind_hearing", "is_resting", "rings", "rung", "hears", "go_on", "enters", "returned", "twin", "same", "tail_seen"] : List PySem.Str)
  cls := ([⟨1, [(0, 15), (1, 16), (2, 17), (3, 18), (4, 19), (5, 20), (6, 21), (7, 22)], some 14, [0]⟩, ⟨2, [(0, 15), (1, 24), (2, 25), (3, 18), (4, 19), (5, 20), (6, 21), (7, 22), (8, 26), (9, 27), (10, 28), (11, 29)], some 23, [1, 0]⟩, ⟨3, [(0, 15), (1, 31), (2, 32), (3, 33), (4, 19), (5, 20), (6, 21), (7, 22), (10, 35), (11, 36), (12, 34)], some 30, [2, 0]⟩] : List L3.CI)
  fns := (([F0, F1, F2, F3, F4, F5, F6, F7, F8, F9, F10, F11, F12, F13, F14, F15, F16, F17, F18, F19, F20, F21, F22, F23, F24, F25, F26, F27, F28, F29] : List L3.FnI) ++ ([F30, F31, F32, F33, F34, F35, F36] : List L3.FnI))
  gts := ([(0, ([L3.LV.str [111, 102, 102, 101, 114], L3.LV.str [116, 97, 107, 101, 110], L3.LV.str [111, 110], L3.LV.str [111, 117, 116], L3.LV.str [98, 97, 99, 107]] : List L3.LV))] : List (Nat × List L3.LV))
  sups := ([("End", "__init__", 14)] : List (PySem.Str × PySem.Str × Nat))
  glos := (["bell_words", "fore_words", "hind_words", "need_word", "_law_cell", "_law_box", "_law_take", "_law_words", "_law_moved", "_law_moves", "_law_seen", "_law_idle", "_law_case", "law", "End", "Fore", "Hind", "WORDS"] : List PySem.Str)
  frees := (["len", "range", "max", "min", "int", "isinstance", "str", "list"] : List PySem.Str)
def nm : L3.Nm where
  g := fun x => (([("WORDS", 0), ("End", 1), ("Fore", 2), ("Hind", 3)] : List (PySem.Str × Nat))).lookup x
  c := fun x => (([("End", 0), ("Fore", 1), ("Hind", 2)] : List (PySem.Str × Nat))).lookup x
  fn := fun x => (([("bell_words", 0), ("fore_words", 1), ("hind_words", 2), ("need_word", 3), ("_law_cell", 4), ("_law_box", 5), ("_law_take", 6), ("_law_words", 7), ("_law_moved", 8), ("_law_moves", 9), ("_law_seen", 10), ("_law_idle", 11), ("_law_case", 12), ("law", 13)] : List (PySem.Str × Nat))).lookup x
  f := fun x => (([("stands", 0)] : List (PySem.Str × Nat))).lookup x
  m := fun x => (([("word", 0), ("behind_ring", 1), ("behind_hearing", 2), ("is_resting", 3), ("rings", 4), ("rung", 5), ("hears", 6), ("go_on", 7), ("enters", 8), ("returned", 9), ("twin", 10), ("same", 11), ("tail_seen", 12)] : List (PySem.Str × Nat))).lookup x
  dead := fun l => ((([(162, [1, 3, 4, 5]), (173, [2, 5, 6, 7, 8, 9, 10]), (180, [10]), (191, [1])] : List (Nat × List Nat))).lookup l).getD []
  turns := fun l => ((([(162, 0), (173, 0), (180, 0), (191, 0)] : List (Nat × Nat))).lookup l).getD 0
  drop := fun l => ([162, 173, 180] : List Nat).contains l
def ir0 : L3.ISs := (L3.ISs.cons (L3.IS.ret (L3.IE.prim (L3.P.list) (L3.IEs.cons (L3.IE.con (L3.LV.gl 0)) (L3.IEs.nil)))) (L3.ISs.nil))
def d0 : L3.FD := ⟨F0, "bell_words", "bell_words", L2.defArgs s0, L2.defBody s0, L2.defScope s0, N0, ir0⟩
theorem sc0 : FnScope N0 F0.ps (L2.defScope s0) := ⟨rfl, rfl, rfl, by decide +kernel, by decide +kernel, by decide +kernel, by decide +kernel⟩
theorem tr0 : L3.cFn tl.pd nm N0 (L2.defScope s0) (L2.defBody s0) = some ir0 := by kernel_rfl
theorem bi0 (K : PySem.W.Frag) (fd : FuncData) (F : FunD K d0.name d0.qual d0.params d0.body d0.scope (F0.dfl.map (L3.vx tl.pd.T K fun _ => 0)) [] (He.fAd K F0.at_) fd) (j : Nat) (h : j ≤ F0.dfl.length) : ∃ ds, Vals ((F0.dfl.drop j).map (L3.vx tl.pd.T K fun _ => 0)) ds ∧ Binds K fd F0.ps ds := by
  have e : j = 0 := Nat.le_zero.mp h
  subst e
  exact ⟨[], .nil, FunD.bindsN F fun _ _ _ _ _ _ us hl => match us, hl with | [], _ => rfl⟩
def ir1 : L3.ISs := (L3.ISs.cons   (L3.IS.ret     (L3.IE.prim       (L3.P.lst)       (L3.IEs.cons         (L3.IE.con (L3.LV.str [114, 101, 115, 116]))         (L3.IEs.cons           (L3.IE.con (L3.LV.str [111, 102, 102, 101, 114, 101, 100]))           (L3.IEs.cons             (L3.IE.con (L3.LV.str [116, 97, 107, 101, 110]))             (L3.IEs.cons               (L3.IE.con (L3.LV.str [111, 110]))               (L3.IEs.cons (L3.IE.con (L3.LV.str [98, 97, 99, 107])) (L3.IEs.nil))))))))   (L3.ISs.nil))
def d1 : L3.FD := ⟨F1, "fore_words", "fore_words", L2.defArgs s1, L2.defBody s1, L2.defScope s1, N1, ir1⟩
theorem sc1 : FnScope N1 F1.ps (L2.defScope s1) := ⟨rfl, rfl, rfl, by decide +kernel, by decide +kernel, by decide +kernel, by decide +kernel⟩
theorem tr1 : L3.cFn tl.pd nm N1 (L2.defScope s1) (L2.defBody s1) = some ir1 := by kernel_rfl
theorem bi1 (K : PySem.W.Frag) (fd : FuncData) (F : FunD K d1.name d1.qual d1.params d1.body d1.scope (F1.dfl.map (L3.vx tl.pd.T K fun _ => 0)) [] (He.fAd K F1.at_) fd) (j : Nat) (h : j ≤ F1.dfl.length) : ∃ ds, Vals ((F1.dfl.drop j).map (L3.vx tl.pd.T K fun _ => 0)) ds ∧ Binds K fd F1.ps ds := by
  have e : j = 0 := Nat.le_zero.mp h
  subst e
  exact ⟨[], .nil, FunD.bindsN F fun _ _ _ _ _ _ us hl => match us, hl with | [], _ => rfl⟩
def ir2 : L3.ISs := (L3.ISs.cons   (L3.IS.ret     (L3.IE.prim       (L3.P.lst)       (L3.IEs.cons         (L3.IE.con (L3.LV.str [114, 101, 115, 116]))         (L3.IEs.cons           (L3.IE.con (L3.LV.str [97, 115, 107, 101, 100]))           (L3.IEs.cons             (L3.IE.con (L3.LV.str [103, 105, 118, 101, 110]))             (L3.IEs.cons               (L3.IE.con (L3.LV.str [112, 97, 115, 115, 101, 100]))               (L3.IEs.cons                 (L3.IE.con (L3.LV.str [116, 111, 108, 100]))                 (L3.IEs.cons                   (L3.IE.con (L3.LV.str [99, 108, 101, 97, 114]))                   (L3.IEs.cons (L3.IE.con (L3.LV.str [99, 108, 111, 115, 101, 100])) (L3.IEs.nil))))))))))   (L3.ISs.nil))
def d2 : L3.FD := ⟨F2, "hind_words", "hind_words", L2.defArgs s2, L2.defBody s2, L2.defScope s2, N2, ir2⟩
theorem sc2 : FnScope N2 F2.ps (L2.defScope s2) := ⟨rfl, rfl, rfl, by decide +kernel, by decide +kernel, by decide +kernel, by decide +kernel⟩
theorem tr2 : L3.cFn tl.pd nm N2 (L2.defScope s2) (L2.defBody s2) = some ir2 := by kernel_rfl
theorem bi2 (K : PySem.W.Frag) (fd : FuncData) (F : FunD K d2.name d2.qual d2.params d2.body d2.scope (F2.dfl.map (L3.vx tl.pd.T K fun _ => 0)) [] (He.fAd K F2.at_) fd) (j : Nat) (h : j ≤ F2.dfl.length) : ∃ ds, Vals ((F2.dfl.drop j).map (L3.vx tl.pd.T K fun _ => 0)) ds ∧ Binds K fd F2.ps ds := by
  have e : j = 0 := Nat.le_zero.mp h
  subst e
  exact ⟨[], .nil, FunD.bindsN F fun _ _ _ _ _ _ us hl => match us, hl with | [], _ => rfl⟩
def ir3 : L3.ISs := (L3.ISs.cons   (L3.IS.ite     (L3.IE.or       (L3.IE.prim         (L3.P.not)         (L3.IEs.cons (L3.IE.prim (L3.P.isi [L3.Ty.str]) (L3.IEs.cons (L3.IE.var 0) (L3.IEs.nil))) (L3.IEs.nil)))       (L3.IE.prim (L3.P.notin) (L3.IEs.cons (L3.IE.var 0) (L3.IEs.cons (L3.IE.var 1) (L3.IEs.nil)))))     (L3.ISs.cons (L3.IS.bad) (L3.ISs.nil))     (L3.ISs.nil))   (L3.ISs.nil))
def d3 : L3.FD := ⟨F3, "need_word", "need_word", L2.defArgs s3, L2.defBody s3, L2.defScope s3, N3, ir3⟩
theorem sc3 : FnScope N3 F3.ps (L2.defScope s3) := ⟨rfl, rfl, rfl, by decide +kernel, by decide +kernel, by decide +kernel, by decide +kernel⟩
theorem tr3 : L3.cFn tl.pd nm N3 (L2.defScope s3) (L2.defBody s3) = some ir3 := by kernel_rfl
theorem bi3 (K : PySem.W.Frag) (fd : FuncData) (F : FunD K d3.name d3.qual d3.params d3.body d3.scope (F3.dfl.map (L3.vx tl.pd.T K fun _ => 0)) [] (He.fAd K F3.at_) fd) (j : Nat) (h : j ≤ F3.dfl.length) : ∃ ds, Vals ((F3.dfl.drop j).map (L3.vx tl.pd.T K fun _ => 0)) ds ∧ Binds K fd F3.ps ds := by
  have e : j = 0 := Nat.le_zero.mp h
  subst e
  exact ⟨[], .nil, FunD.bindsN F fun _ _ _ _ _ _ us hl => match us, hl with | [_, _], _ => rfl⟩
def ir4 : L3.ISs := (L3.ISs.cons   (L3.IS.ite     (L3.IE.prim       (L3.P.lt)       (L3.IEs.cons         (L3.IE.var 1)         (L3.IEs.cons (L3.IE.prim (L3.P.len) (L3.IEs.cons (L3.IE.var 0) (L3.IEs.nil))) (L3.IEs.nil))))     (L3.ISs.cons       (L3.IS.ret (L3.IE.prim (L3.P.ix) (L3.IEs.cons (L3.IE.var 0) (L3.IEs.cons (L3.IE.var 1) (L3.IEs.nil)))))       (L3.ISs.nil))     (L3.ISs.nil))   (L3.ISs.cons     (L3.IS.ret       (L3.IE.prim         (L3.P.add)         (L3.IEs.cons           (L3.IE.prim (L3.P.mul) (L3.IEs.cons (L3.IE.con (L3.LV.int 7919)) (L3.IEs.cons (L3.IE.var 1) (L3.IEs.nil))))           (L3.IEs.cons (L3.IE.con (L3.LV.int 41)) (L3.IEs.nil)))))     (L3.ISs.nil)))
def d4 : L3.FD := ⟨F4, "_law_cell", "_law_cell", L2.defArgs s4, L2.defBody s4, L2.defScope s4, N4, ir4⟩
theorem sc4 : FnScope N4 F4.ps (L2.defScope s4) := ⟨rfl, rfl, rfl, by decide +kernel, by decide +kernel, by decide +kernel, by decide +kernel⟩
theorem tr4 : L3.cFn tl.pd nm N4 (L2.defScope s4) (L2.defBody s4) = some ir4 := by kernel_rfl
theorem bi4 (K : PySem.W.Frag) (fd : FuncData) (F : FunD K d4.name d4.qual d4.params d4.body d4.scope (F4.dfl.map (L3.vx tl.pd.T K fun _ => 0)) [] (He.fAd K F4.at_) fd) (j : Nat) (h : j ≤ F4.dfl.length) : ∃ ds, Vals ((F4.dfl.drop j).map (L3.vx tl.pd.T K fun _ => 0)) ds ∧ Binds K fd F4.ps ds := by
  have e : j = 0 := Nat.le_zero.mp h
  subst e
  exact ⟨[], .nil, FunD.bindsN F fun _ _ _ _ _ _ us hl => match us, hl with | [_, _], _ => rfl⟩
def ir5 : L3.ISs := (L3.ISs.cons   (L3.IS.ret     (L3.IE.prim       (L3.P.lst)       (L3.IEs.cons         (L3.IE.prim           (L3.P.max2)           (L3.IEs.cons             (L3.IE.con (L3.LV.int 0))             (L3.IEs.cons               (L3.IE.prim                 (L3.P.sub)                 (L3.IEs.cons                   (L3.IE.var 0)                   (L3.IEs.cons                     (L3.IE.prim                       (L3.P.pow)                       (L3.IEs.cons (L3.IE.con (L3.LV.int 10)) (L3.IEs.cons (L3.IE.con (L3.LV.int 18)) (L3.IEs.nil))))                     (L3.IEs.nil))))               (L3.IEs.nil))))         (L3.IEs.cons           (L3.IE.prim             (L3.P.mod)             (L3.IEs.cons (L3.IE.var 0) (L3.IEs.cons (L3.IE.con (L3.LV.int 2147483629)) (L3.IEs.nil))))           (L3.IEs.cons (L3.IE.con (L3.LV.int 0)) (L3.IEs.nil))))))   (L3.ISs.nil))
def d5 : L3.FD := ⟨F5, "_law_box", "_law_box", L2.defArgs s5, L2.defBody s5, L2.defScope s5, N5, ir5⟩
theorem sc5 : FnScope N5 F5.ps (L2.defScope s5) := ⟨rfl, rfl, rfl, by decide +kernel, by decide +kernel, by decide +kernel, by decide +kernel⟩
theorem tr5 : L3.cFn tl.pd nm N5 (L2.defScope s5) (L2.defBody s5) = some ir5 := by kernel_rfl
theorem bi5 (K : PySem.W.Frag) (fd : FuncData) (F : FunD K d5.name d5.qual d5.params d5.body d5.scope (F5.dfl.map (L3.vx tl.pd.T K fun _ => 0)) [] (He.fAd K F5.at_) fd) (j : Nat) (h : j ≤ F5.dfl.length) : ∃ ds, Vals ((F5.dfl.drop j).map (L3.vx tl.pd.T K fun _ => 0)) ds ∧ Binds K fd F5.ps ds := by
  have e : j = 0 := Nat.le_zero.mp h
  subst e
  exact ⟨[], .nil, FunD.bindsN F fun _ _ _ _ _ _ us hl => match us, hl with | [_], _ => rfl⟩
def ir6 : L3.ISs := (L3.ISs.cons   (L3.IS.ite     (L3.IE.prim       (L3.P.gt)       (L3.IEs.cons         (L3.IE.prim (L3.P.ix) (L3.IEs.cons (L3.IE.var 0) (L3.IEs.cons (L3.IE.con (L3.LV.int 0)) (L3.IEs.nil))))         (L3.IEs.cons (L3.IE.con (L3.LV.int 0)) (L3.IEs.nil))))     (L3.ISs.cons       (L3.IS.asg         (L3.IG.name 2)         (L3.IE.prim           (L3.P.mod)           (L3.IEs.cons             (L3.IE.prim (L3.P.ix) (L3.IEs.cons (L3.IE.var 0) (L3.IEs.cons (L3.IE.con (L3.LV.int 0)) (L3.IEs.nil))))             (L3.IEs.cons (L3.IE.var 1) (L3.IEs.nil)))))       (L3.ISs.cons         (L3.IS.asg           (L3.IG.sub (L3.IE.var 0) (L3.IE.con (L3.LV.int 0)))           (L3.IE.prim             (L3.P.fdiv)             (L3.IEs.cons               (L3.IE.prim (L3.P.ix) (L3.IEs.cons (L3.IE.var 0) (L3.IEs.cons (L3.IE.con (L3.LV.int 0)) (L3.IEs.nil))))               (L3.IEs.cons (L3.IE.var 1) (L3.IEs.nil)))))         (L3.ISs.cons (L3.IS.ret (L3.IE.var 2)) (L3.ISs.nil))))     (L3.ISs.nil))   (L3.ISs.cons     (L3.IS.asg       (L3.IG.sub (L3.IE.var 0) (L3.IE.con (L3.LV.int 2)))       (L3.IE.prim         (L3.P.add)         (L3.IEs.cons           (L3.IE.prim (L3.P.ix) (L3.IEs.cons (L3.IE.var 0) (L3.IEs.cons (L3.IE.con (L3.LV.int 2)) (L3.IEs.nil))))           (L3.IEs.cons (L3.IE.con (L3.LV.int 1)) (L3.IEs.nil)))))     (L3.ISs.cons       (L3.IS.asg         (L3.IG.name 3)         (L3.IE.prim           (L3.P.mod)           (L3.IEs.cons             (L3.IE.prim               (L3.P.pow)               (L3.IEs.cons                 (L3.IE.prim                   (L3.P.add)                   (L3.IEs.cons                     (L3.IE.prim                       (L3.P.add)                       (L3.IEs.cons                         (L3.IE.prim                           (L3.P.ix)                           (L3.IEs.cons (L3.IE.var 0) (L3.IEs.cons (L3.IE.con (L3.LV.int 1)) (L3.IEs.nil))))                         (L3.IEs.cons                           (L3.IE.prim                             (L3.P.mul)                             (L3.IEs.cons                               (L3.IE.con (L3.LV.int 7919))                               (L3.IEs.cons                                 (L3.IE.prim                                   (L3.P.ix)                                   (L3.IEs.cons (L3.IE.var 0) (L3.IEs.cons (L3.IE.con (L3.LV.int 2)) (L3.IEs.nil))))                                 (L3.IEs.nil))))                           (L3.IEs.nil))))                     (L3.IEs.cons (L3.IE.con (L3.LV.int 17)) (L3.IEs.nil))))                 (L3.IEs.cons (L3.IE.con (L3.LV.int 5)) (L3.IEs.nil))))             (L3.IEs.cons (L3.IE.con (L3.LV.int 2147483647)) (L3.IEs.nil)))))       (L3.ISs.cons         (L3.IS.asg           (L3.IG.name 3)           (L3.IE.prim             (L3.P.mod)             (L3.IEs.cons               (L3.IE.prim                 (L3.P.pow)                 (L3.IEs.cons                   (L3.IE.prim                     (L3.P.add)                     (L3.IEs.cons                       (L3.IE.var 3)                       (L3.IEs.cons                         (L3.IE.prim                           (L3.P.mul)                           (L3.IEs.cons                             (L3.IE.con (L3.LV.int 104729))                             (L3.IEs.cons                               (L3.IE.prim                                 (L3.P.ix)                                 (L3.IEs.cons (L3.IE.var 0) (L3.IEs.cons (L3.IE.con (L3.LV.int 2)) (L3.IEs.nil))))                               (L3.IEs.nil))))                         (L3.IEs.nil))))                   (L3.IEs.cons (L3.IE.con (L3.LV.int 3)) (L3.IEs.nil))))               (L3.IEs.cons (L3.IE.con (L3.LV.int 2147483587)) (L3.IEs.nil)))))         (L3.ISs.cons           (L3.IS.ret             (L3.IE.prim               (L3.P.mod)               (L3.IEs.cons                 (L3.IE.prim                   (L3.P.fdiv)                   (L3.IEs.cons (L3.IE.var 3) (L3.IEs.cons (L3.IE.con (L3.LV.int 16)) (L3.IEs.nil))))                 (L3.IEs.cons (L3.IE.var 1) (L3.IEs.nil)))))           (L3.ISs.nil))))))
def d6 : L3.FD := ⟨F6, "_law_take", "_law_take", L2.defArgs s6, L2.defBody s6, L2.defScope s6, N6, ir6⟩
theorem sc6 : FnScope N6 F6.ps (L2.defScope s6) := ⟨rfl, rfl, rfl, by decide +kernel, by decide +kernel, by decide +kernel, by decide +kernel⟩
theorem tr6 : L3.cFn tl.pd nm N6 (L2.defScope s6) (L2.defBody s6) = some ir6 := by kernel_rfl
theorem bi6 (K : PySem.W.Frag) (fd : FuncData) (F : FunD K d6.name d6.qual d6.params d6.body d6.scope (F6.dfl.map (L3.vx tl.pd.T K fun _ => 0)) [] (He.fAd K F6.at_) fd) (j : Nat) (h : j ≤ F6.dfl.length) : ∃ ds, Vals ((F6.dfl.drop j).map (L3.vx tl.pd.T K fun _ => 0)) ds ∧ Binds K fd F6.ps ds := by
  have e : j = 0 := Nat.le_zero.mp h
  subst e
  exact ⟨[], .nil, FunD.bindsN F fun _ _ _ _ _ _ us hl => match us, hl with | [_, _], _ => rfl⟩
def ir7 : L3.ISs := (L3.ISs.cons   (L3.IS.asg     (L3.IG.name 1)     (L3.IE.prim       (L3.P.lst)       (L3.IEs.cons         (L3.IE.con (L3.LV.str [114, 101, 115, 116]))         (L3.IEs.cons           (L3.IE.con (L3.LV.str [111, 102, 102, 101, 114, 101, 100]))           (L3.IEs.cons             (L3.IE.con (L3.LV.str [116, 97, 107, 101, 110]))             (L3.IEs.cons               (L3.IE.con (L3.LV.str [111, 110]))               (L3.IEs.cons (L3.IE.con (L3.LV.str [98, 97, 99, 107])) (L3.IEs.nil))))))))   (L3.ISs.cons     (L3.IS.ret       (L3.IE.prim         (L3.P.ix)         (L3.IEs.cons           (L3.IE.prim             (L3.P.lst)             (L3.IEs.cons               (L3.IE.var 1)               (L3.IEs.cons                 (L3.IE.prim                   (L3.P.lst)                   (L3.IEs.cons                     (L3.IE.con (L3.LV.str [114, 101, 115, 116]))                     (L3.IEs.cons                       (L3.IE.con (L3.LV.str [97, 115, 107, 101, 100]))                       (L3.IEs.cons                         (L3.IE.con (L3.LV.str [103, 105, 118, 101, 110]))                         (L3.IEs.cons                           (L3.IE.con (L3.LV.str [112, 97, 115, 115, 101, 100]))                           (L3.IEs.cons                             (L3.IE.con (L3.LV.str [116, 111, 108, 100]))                             (L3.IEs.cons                               (L3.IE.con (L3.LV.str [99, 108, 101, 97, 114]))                               (L3.IEs.cons (L3.IE.con (L3.LV.str [99, 108, 111, 115, 101, 100])) (L3.IEs.nil)))))))))                 (L3.IEs.nil))))           (L3.IEs.cons (L3.IE.var 0) (L3.IEs.nil)))))     (L3.ISs.nil)))
def d7 : L3.FD := ⟨F7, "_law_words", "_law_words", L2.defArgs s7, L2.defBody s7, L2.defScope s7, N7, ir7⟩
theorem sc7 : FnScope N7 F7.ps (L2.defScope s7) := ⟨rfl, rfl, rfl, by decide +kernel, by decide +kernel, by decide +kernel, by decide +kernel⟩
theorem tr7 : L3.cFn tl.pd nm N7 (L2.defScope s7) (L2.defBody s7) = some ir7 := by kernel_rfl
theorem bi7 (K : PySem.W.Frag) (fd : FuncData) (F : FunD K d7.name d7.qual d7.params d7.body d7.scope (F7.dfl.map (L3.vx tl.pd.T K fun _ => 0)) [] (He.fAd K F7.at_) fd) (j : Nat) (h : j ≤ F7.dfl.length) : ∃ ds, Vals ((F7.dfl.drop j).map (L3.vx tl.pd.T K fun _ => 0)) ds ∧ Binds K fd F7.ps ds := by
  have e : j = 0 := Nat.le_zero.mp h
  subst e
  exact ⟨[], .nil, FunD.bindsN F fun _ _ _ _ _ _ us hl => match us, hl with | [_], _ => rfl⟩
def ir8 : L3.ISs := (L3.ISs.cons   (L3.IS.ite     (L3.IE.prim       (L3.P.eq)       (L3.IEs.cons (L3.IE.var 1) (L3.IEs.cons (L3.IE.con (L3.LV.str [114, 105, 110, 103])) (L3.IEs.nil))))     (L3.ISs.cons (L3.IS.expr (L3.IE.meth 5 (L3.IE.var 0) (L3.IEs.cons (L3.IE.var 2) (L3.IEs.nil)))) (L3.ISs.nil))     (L3.ISs.cons       (L3.IS.ite         (L3.IE.prim           (L3.P.eq)           (L3.IEs.cons (L3.IE.var 1) (L3.IEs.cons (L3.IE.con (L3.LV.str [104, 101, 97, 114])) (L3.IEs.nil))))         (L3.ISs.cons (L3.IS.expr (L3.IE.meth 6 (L3.IE.var 0) (L3.IEs.cons (L3.IE.var 2) (L3.IEs.nil)))) (L3.ISs.nil))         (L3.ISs.cons           (L3.IS.ite             (L3.IE.prim               (L3.P.eq)               (L3.IEs.cons (L3.IE.var 1) (L3.IEs.cons (L3.IE.con (L3.LV.str [105, 110])) (L3.IEs.nil))))             (L3.ISs.cons (L3.IS.expr (L3.IE.meth 8 (L3.IE.var 0) (L3.IEs.nil))) (L3.ISs.nil))             (L3.ISs.cons               (L3.IS.ite                 (L3.IE.prim                   (L3.P.eq)                   (L3.IEs.cons                     (L3.IE.var 1)                     (L3.IEs.cons (L3.IE.con (L3.LV.str [114, 101, 116, 117, 114, 110])) (L3.IEs.nil))))                 (L3.ISs.cons (L3.IS.expr (L3.IE.meth 9 (L3.IE.var 0) (L3.IEs.nil))) (L3.ISs.nil))                 (L3.ISs.cons (L3.IS.expr (L3.IE.meth 12 (L3.IE.var 0) (L3.IEs.nil))) (L3.ISs.nil)))               (L3.ISs.nil)))           (L3.ISs.nil)))       (L3.ISs.nil)))   (L3.ISs.nil))
def d8 : L3.FD := ⟨F8, "_law_moved", "_law_moved", L2.defArgs s8, L2.defBody s8, L2.defScope s8, N8, ir8⟩
theorem sc8 : FnScope N8 F8.ps (L2.defScope s8) := ⟨rfl, rfl, rfl, by decide +kernel, by decide +kernel, by decide +kernel, by decide +kernel⟩
theorem tr8 : L3.cFn tl.pd nm N8 (L2.defScope s8) (L2.defBody s8) = some ir8 := by kernel_rfl
theorem bi8 (K : PySem.W.Frag) (fd : FuncData) (F : FunD K d8.name d8.qual d8.params d8.body d8.scope (F8.dfl.map (L3.vx tl.pd.T K fun _ => 0)) [] (He.fAd K F8.at_) fd) (j : Nat) (h : j ≤ F8.dfl.length) : ∃ ds, Vals ((F8.dfl.drop j).map (L3.vx tl.pd.T K fun _ => 0)) ds ∧ Binds K fd F8.ps ds := by
  have e : j = 0 := Nat.le_zero.mp h
  subst e
  exact ⟨[], .nil, FunD.bindsN F fun _ _ _ _ _ _ us hl => match us, hl with | [_, _, _], _ => rfl⟩
def ir9 : L3.ISs := (L3.ISs.cons   (L3.IS.asg     (L3.IG.name 2)     (L3.IE.comp       [3]       (L3.IG.name 3)       (L3.II.seq (L3.IE.meth 4 (L3.IE.var 1) (L3.IEs.nil)))       (L3.IE.con (L3.LV.bl true))       (L3.IE.prim         (L3.P.tup)         (L3.IEs.cons (L3.IE.con (L3.LV.str [114, 105, 110, 103])) (L3.IEs.cons (L3.IE.var 3) (L3.IEs.nil))))))   (L3.ISs.cons     (L3.IS.asg       (L3.IG.name 2)       (L3.IE.prim         (L3.P.add)         (L3.IEs.cons           (L3.IE.var 2)           (L3.IEs.cons             (L3.IE.comp               [3]               (L3.IG.name 3)               (L3.II.seq                 (L3.IE.prim                   (L3.P.lst)                   (L3.IEs.cons                     (L3.IE.con (L3.LV.str [111, 102, 102, 101, 114]))                     (L3.IEs.cons                       (L3.IE.con (L3.LV.str [116, 97, 107, 101, 110]))                       (L3.IEs.cons                         (L3.IE.con (L3.LV.str [111, 110]))                         (L3.IEs.cons                           (L3.IE.con (L3.LV.str [111, 117, 116]))                           (L3.IEs.cons (L3.IE.con (L3.LV.str [98, 97, 99, 107])) (L3.IEs.nil))))))))               (L3.IE.con (L3.LV.bl true))               (L3.IE.prim                 (L3.P.tup)                 (L3.IEs.cons (L3.IE.con (L3.LV.str [104, 101, 97, 114])) (L3.IEs.cons (L3.IE.var 3) (L3.IEs.nil)))))             (L3.IEs.nil)))))     (L3.ISs.cons       (L3.IS.ite         (L3.IE.prim (L3.P.eq) (L3.IEs.cons (L3.IE.var 0) (L3.IEs.cons (L3.IE.con (L3.LV.int 0)) (L3.IEs.nil))))         (L3.ISs.cons           (L3.IS.ret             (L3.IE.prim               (L3.P.add)               (L3.IEs.cons                 (L3.IE.prim                   (L3.P.add)                   (L3.IEs.cons                     (L3.IE.var 2)                     (L3.IEs.cons                       (L3.IE.prim                         (L3.P.mul)                         (L3.IEs.cons                           (L3.IE.prim                             (L3.P.lst)                             (L3.IEs.cons                               (L3.IE.prim                                 (L3.P.tup)                                 (L3.IEs.cons                                   (L3.IE.con (L3.LV.str [105, 110]))                                   (L3.IEs.cons (L3.IE.con (L3.LV.str [])) (L3.IEs.nil))))                               (L3.IEs.nil)))                           (L3.IEs.cons                             (L3.IE.prim                               (L3.P.int)                               (L3.IEs.cons                                 (L3.IE.prim                                   (L3.P.eq)                                   (L3.IEs.cons                                     (L3.IE.meth 0 (L3.IE.var 1) (L3.IEs.nil))                                     (L3.IEs.cons (L3.IE.con (L3.LV.str [116, 97, 107, 101, 110])) (L3.IEs.nil))))                                 (L3.IEs.nil)))                             (L3.IEs.nil))))                       (L3.IEs.nil))))                 (L3.IEs.cons                   (L3.IE.prim                     (L3.P.mul)                     (L3.IEs.cons                       (L3.IE.prim                         (L3.P.lst)                         (L3.IEs.cons                           (L3.IE.prim                             (L3.P.tup)                             (L3.IEs.cons                               (L3.IE.con (L3.LV.str [114, 101, 116, 117, 114, 110]))                               (L3.IEs.cons (L3.IE.con (L3.LV.str [])) (L3.IEs.nil))))                           (L3.IEs.nil)))                       (L3.IEs.cons                         (L3.IE.prim                           (L3.P.int)                           (L3.IEs.cons                             (L3.IE.prim                               (L3.P.eq)                               (L3.IEs.cons                                 (L3.IE.meth 0 (L3.IE.var 1) (L3.IEs.nil))                                 (L3.IEs.cons (L3.IE.con (L3.LV.str [111, 110])) (L3.IEs.nil))))                             (L3.IEs.nil)))                         (L3.IEs.nil))))                   (L3.IEs.nil)))))           (L3.ISs.nil))         (L3.ISs.nil))       (L3.ISs.cons         (L3.IS.ret           (L3.IE.prim             (L3.P.add)             (L3.IEs.cons               (L3.IE.var 2)               (L3.IEs.cons                 (L3.IE.prim                   (L3.P.mul)                   (L3.IEs.cons                     (L3.IE.prim                       (L3.P.lst)                       (L3.IEs.cons                         (L3.IE.prim                           (L3.P.tup)                           (L3.IEs.cons                             (L3.IE.con (L3.LV.str [116, 97, 105, 108]))                             (L3.IEs.cons (L3.IE.con (L3.LV.str [])) (L3.IEs.nil))))                         (L3.IEs.nil)))                     (L3.IEs.cons                       (L3.IE.prim                         (L3.P.int)                         (L3.IEs.cons                           (L3.IE.prim                             (L3.P.inn)                             (L3.IEs.cons                               (L3.IE.meth 0 (L3.IE.var 1) (L3.IEs.nil))                               (L3.IEs.cons                                 (L3.IE.prim                                   (L3.P.tup)                                   (L3.IEs.cons                                     (L3.IE.con (L3.LV.str [103, 105, 118, 101, 110]))                                     (L3.IEs.cons (L3.IE.con (L3.LV.str [116, 111, 108, 100])) (L3.IEs.nil))))                                 (L3.IEs.nil))))                           (L3.IEs.nil)))                       (L3.IEs.nil))))                 (L3.IEs.nil)))))         (L3.ISs.nil)))))
def d9 : L3.FD := ⟨F9, "_law_moves", "_law_moves", L2.defArgs s9, L2.defBody s9, L2.defScope s9, N9, ir9⟩
theorem sc9 : FnScope N9 F9.ps (L2.defScope s9) := ⟨rfl, rfl, rfl, by decide +kernel, by decide +kernel, by decide +kernel, by decide +kernel⟩
theorem tr9 : L3.cFn tl.pd nm N9 (L2.defScope s9) (L2.defBody s9) = some ir9 := by kernel_rfl
theorem bi9 (K : PySem.W.Frag) (fd : FuncData) (F : FunD K d9.name d9.qual d9.params d9.body d9.scope (F9.dfl.map (L3.vx tl.pd.T K fun _ => 0)) [] (He.fAd K F9.at_) fd) (j : Nat) (h : j ≤ F9.dfl.length) : ∃ ds, Vals ((F9.dfl.drop j).map (L3.vx tl.pd.T K fun _ => 0)) ds ∧ Binds K fd F9.ps ds := by
  have e : j = 0 := Nat.le_zero.mp h
  subst e
  exact ⟨[], .nil, FunD.bindsN F fun _ _ _ _ _ _ us hl => match us, hl with | [_, _], _ => rfl⟩
def ir10 : L3.ISs := (L3.ISs.cons   (L3.IS.ret     (L3.IE.prim       (L3.P.tup)       (L3.IEs.cons         (L3.IE.meth 0 (L3.IE.var 0) (L3.IEs.nil))         (L3.IEs.cons           (L3.IE.meth 4 (L3.IE.var 0) (L3.IEs.nil))           (L3.IEs.cons (L3.IE.meth 3 (L3.IE.var 0) (L3.IEs.nil)) (L3.IEs.nil))))))   (L3.ISs.nil))
def d10 : L3.FD := ⟨F10, "_law_seen", "_law_seen", L2.defArgs s10, L2.defBody s10, L2.defScope s10, N10, ir10⟩
theorem sc10 : FnScope N10 F10.ps (L2.defScope s10) := ⟨rfl, rfl, rfl, by decide +kernel, by decide +kernel, by decide +kernel, by decide +kernel⟩
theorem tr10 : L3.cFn tl.pd nm N10 (L2.defScope s10) (L2.defBody s10) = some ir10 := by kernel_rfl
theorem bi10 (K : PySem.W.Frag) (fd : FuncData) (F : FunD K d10.name d10.qual d10.params d10.body d10.scope (F10.dfl.map (L3.vx tl.pd.T K fun _ => 0)) [] (He.fAd K F10.at_) fd) (j : Nat) (h : j ≤ F10.dfl.length) : ∃ ds, Vals ((F10.dfl.drop j).map (L3.vx tl.pd.T K fun _ => 0)) ds ∧ Binds K fd F10.ps ds := by
  have e : j = 0 := Nat.le_zero.mp h
  subst e
  exact ⟨[], .nil, FunD.bindsN F fun _ _ _ _ _ _ us hl => match us, hl with | [_], _ => rfl⟩
def ir11 : L3.ISs := (L3.ISs.cons   (L3.IS.for_     [1, 3, 4, 5]     (L3.IG.drop 3)     (L3.II.rng1 (L3.IE.call 6 (L3.IEs.cons (L3.IE.var 0) (L3.IEs.cons (L3.IE.con (L3.LV.int 3)) (L3.IEs.nil))) []))     (L3.ISs.cons       (L3.IS.asg         (L3.IG.name 4)         (L3.IE.prim           (L3.P.ix)           (L3.IEs.cons             (L3.IE.prim               (L3.P.lst)               (L3.IEs.cons                 (L3.IE.con (L3.LV.str [111, 102, 102, 101, 114]))                 (L3.IEs.cons                   (L3.IE.con (L3.LV.str [116, 97, 107, 101, 110]))                   (L3.IEs.cons                     (L3.IE.con (L3.LV.str [111, 110]))                     (L3.IEs.cons                       (L3.IE.con (L3.LV.str [111, 117, 116]))                       (L3.IEs.cons (L3.IE.con (L3.LV.str [98, 97, 99, 107])) (L3.IEs.nil)))))))             (L3.IEs.cons               (L3.IE.call 6 (L3.IEs.cons (L3.IE.var 0) (L3.IEs.cons (L3.IE.con (L3.LV.int 5)) (L3.IEs.nil))) [])               (L3.IEs.nil)))))       (L3.ISs.cons         (L3.IS.asg (L3.IG.name 5) (L3.IE.meth 10 (L3.IE.var 2) (L3.IEs.nil)))         (L3.ISs.cons           (L3.IS.expr (L3.IE.meth 6 (L3.IE.var 5) (L3.IEs.cons (L3.IE.var 4) (L3.IEs.nil))))           (L3.ISs.cons             (L3.IS.ite               (L3.IE.meth 11 (L3.IE.var 5) (L3.IEs.cons (L3.IE.var 2) (L3.IEs.nil)))               (L3.ISs.cons                 (L3.IS.expr (L3.IE.meth 6 (L3.IE.var 2) (L3.IEs.cons (L3.IE.var 4) (L3.IEs.nil))))                 (L3.ISs.nil))               (L3.ISs.nil))             (L3.ISs.nil))))))   (L3.ISs.nil))
def d11 : L3.FD := ⟨F11, "_law_idle", "_law_idle", L2.defArgs s11, L2.defBody s11, L2.defScope s11, N11, ir11⟩
theorem sc11 : FnScope N11 F11.ps (L2.defScope s11) := ⟨rfl, rfl, rfl, by decide +kernel, by decide +kernel, by decide +kernel, by decide +kernel⟩
theorem tr11 : L3.cFn tl.pd nm N11 (L2.defScope s11) (L2.defBody s11) = some ir11 := by kernel_rfl
theorem bi11 (K : PySem.W.Frag) (fd : FuncData) (F : FunD K d11.name d11.qual d11.params d11.body d11.scope (F11.dfl.map (L3.vx tl.pd.T K fun _ => 0)) [] (He.fAd K F11.at_) fd) (j : Nat) (h : j ≤ F11.dfl.length) : ∃ ds, Vals ((F11.dfl.drop j).map (L3.vx tl.pd.T K fun _ => 0)) ds ∧ Binds K fd F11.ps ds := by
  have e : j = 0 := Nat.le_zero.mp h
  subst e
  exact ⟨[], .nil, FunD.bindsN F fun _ _ _ _ _ _ us hl => match us, hl with | [_, _, _], _ => rfl⟩
def ir12 : L3.ISs := (L3.ISs.cons   (L3.IS.asg     (L3.IG.name 1)     (L3.IE.call 6 (L3.IEs.cons (L3.IE.var 0) (L3.IEs.cons (L3.IE.con (L3.LV.int 2)) (L3.IEs.nil))) []))   (L3.ISs.cons     (L3.IS.asg       (L3.IG.name 2)       (L3.IE.prim         (L3.P.ix)         (L3.IEs.cons           (L3.IE.call 7 (L3.IEs.cons (L3.IE.var 1) (L3.IEs.nil)) [])           (L3.IEs.cons             (L3.IE.call               6               (L3.IEs.cons                 (L3.IE.var 0)                 (L3.IEs.cons                   (L3.IE.prim                     (L3.P.ix)                     (L3.IEs.cons                       (L3.IE.prim                         (L3.P.lst)                         (L3.IEs.cons (L3.IE.con (L3.LV.int 5)) (L3.IEs.cons (L3.IE.con (L3.LV.int 7)) (L3.IEs.nil))))                       (L3.IEs.cons (L3.IE.var 1) (L3.IEs.nil))))                   (L3.IEs.nil)))               [])             (L3.IEs.nil)))))     (L3.ISs.cons       (L3.IS.asg         (L3.IG.name 3)         (L3.IE.ife           (L3.IE.prim (L3.P.eq) (L3.IEs.cons (L3.IE.var 1) (L3.IEs.cons (L3.IE.con (L3.LV.int 0)) (L3.IEs.nil))))           (L3.IE.make 1 (L3.IEs.cons (L3.IE.var 2) (L3.IEs.nil)) [])           (L3.IE.make 2 (L3.IEs.cons (L3.IE.var 2) (L3.IEs.nil)) [])))       (L3.ISs.cons         (L3.IS.asg (L3.IG.name 4) (L3.IE.meth 10 (L3.IE.var 3) (L3.IEs.nil)))         (L3.ISs.cons           (L3.IS.for_             [2, 5, 6, 7, 8, 9, 10]             (L3.IG.drop 5)             (L3.II.rng1               (L3.IE.prim                 (L3.P.add)                 (L3.IEs.cons                   (L3.IE.con (L3.LV.int 1))                   (L3.IEs.cons                     (L3.IE.call 6 (L3.IEs.cons (L3.IE.var 0) (L3.IEs.cons (L3.IE.con (L3.LV.int 12)) (L3.IEs.nil))) [])                     (L3.IEs.nil)))))             (L3.ISs.cons               (L3.IS.asg                 (L3.IG.name 6)                 (L3.IE.call 9 (L3.IEs.cons (L3.IE.var 1) (L3.IEs.cons (L3.IE.var 3) (L3.IEs.nil))) []))               (L3.ISs.cons                 (L3.IS.asg                   (L3.IG.tup (L3.IGs.cons (L3.IG.name 7) (L3.IGs.cons (L3.IG.name 8) (L3.IGs.nil))))                   (L3.IE.prim                     (L3.P.ix)                     (L3.IEs.cons                       (L3.IE.var 6)                       (L3.IEs.cons                         (L3.IE.call                           6                           (L3.IEs.cons                             (L3.IE.var 0)                             (L3.IEs.cons (L3.IE.prim (L3.P.len) (L3.IEs.cons (L3.IE.var 6) (L3.IEs.nil))) (L3.IEs.nil)))                           [])                         (L3.IEs.nil)))))                 (L3.ISs.cons                   (L3.IS.expr                     (L3.IE.call                       8                       (L3.IEs.cons (L3.IE.var 3) (L3.IEs.cons (L3.IE.var 7) (L3.IEs.cons (L3.IE.var 8) (L3.IEs.nil))))                       []))                   (L3.ISs.cons                     (L3.IS.asg (L3.IG.name 9) (L3.IE.con (L3.LV.int 1)))                     (L3.ISs.cons                       (L3.IS.ite                         (L3.IE.prim                           (L3.P.inn)                           (L3.IEs.cons                             (L3.IE.var 7)                             (L3.IEs.cons                               (L3.IE.prim                                 (L3.P.tup)                                 (L3.IEs.cons                                   (L3.IE.con (L3.LV.str [114, 105, 110, 103]))                                   (L3.IEs.cons (L3.IE.con (L3.LV.str [104, 101, 97, 114])) (L3.IEs.nil))))                               (L3.IEs.nil))))                         (L3.ISs.cons                           (L3.IS.asg                             (L3.IG.name 9)                             (L3.IE.prim                               (L3.P.add)                               (L3.IEs.cons                                 (L3.IE.con (L3.LV.int 1))                                 (L3.IEs.cons                                   (L3.IE.call                                     6                                     (L3.IEs.cons (L3.IE.var 0) (L3.IEs.cons (L3.IE.con (L3.LV.int 3)) (L3.IEs.nil)))                                     [])                                   (L3.IEs.nil)))))                           (L3.ISs.nil))                         (L3.ISs.nil))                       (L3.ISs.cons                         (L3.IS.for_                           [10]                           (L3.IG.drop 10)                           (L3.II.rng1 (L3.IE.var 9))                           (L3.ISs.cons                             (L3.IS.ite                               (L3.IE.and                                 (L3.IE.prim                                   (L3.P.eq)                                   (L3.IEs.cons                                     (L3.IE.var 7)                                     (L3.IEs.cons (L3.IE.con (L3.LV.str [114, 105, 110, 103])) (L3.IEs.nil))))                                 (L3.IE.prim                                   (L3.P.notin)                                   (L3.IEs.cons                                     (L3.IE.var 8)                                     (L3.IEs.cons (L3.IE.meth 4 (L3.IE.var 4) (L3.IEs.nil)) (L3.IEs.nil)))))                               (L3.ISs.cons (L3.IS.ret (L3.IE.con (L3.LV.bl false))) (L3.ISs.nil))                               (L3.ISs.nil))                             (L3.ISs.cons                               (L3.IS.expr                                 (L3.IE.call                                   8                                   (L3.IEs.cons                                     (L3.IE.var 4)                                     (L3.IEs.cons (L3.IE.var 7) (L3.IEs.cons (L3.IE.var 8) (L3.IEs.nil))))                                   []))                               (L3.ISs.cons                                 (L3.IS.ite                                   (L3.IE.prim                                     (L3.P.ne)                                     (L3.IEs.cons                                       (L3.IE.call 10 (L3.IEs.cons (L3.IE.var 4) (L3.IEs.nil)) [])                                       (L3.IEs.cons                                         (L3.IE.call 10 (L3.IEs.cons (L3.IE.var 3) (L3.IEs.nil)) [])                                         (L3.IEs.nil))))                                   (L3.ISs.cons (L3.IS.ret (L3.IE.con (L3.LV.bl false))) (L3.ISs.nil))                                   (L3.ISs.nil))                                 (L3.ISs.nil)))))                         (L3.ISs.cons                           (L3.IS.expr                             (L3.IE.call                               11                               (L3.IEs.cons                                 (L3.IE.var 0)                                 (L3.IEs.cons (L3.IE.var 1) (L3.IEs.cons (L3.IE.var 4) (L3.IEs.nil))))                               []))                           (L3.ISs.cons                             (L3.IS.ite                               (L3.IE.or                                 (L3.IE.prim                                   (L3.P.notB)                                   (L3.IEs.cons                                     (L3.IE.meth 11 (L3.IE.var 3) (L3.IEs.cons (L3.IE.var 4) (L3.IEs.nil)))                                     (L3.IEs.cons (L3.IE.con (L3.LV.bl true)) (L3.IEs.nil))))                                 (L3.IE.or                                   (L3.IE.prim                                     (L3.P.notB)                                     (L3.IEs.cons                                       (L3.IE.meth 11 (L3.IE.var 4) (L3.IEs.cons (L3.IE.var 3) (L3.IEs.nil)))                                       (L3.IEs.cons (L3.IE.con (L3.LV.bl true)) (L3.IEs.nil))))                                   (L3.IE.prim                                     (L3.P.ne)                                     (L3.IEs.cons                                       (L3.IE.call 10 (L3.IEs.cons (L3.IE.var 4) (L3.IEs.nil)) [])                                       (L3.IEs.cons                                         (L3.IE.call 10 (L3.IEs.cons (L3.IE.var 3) (L3.IEs.nil)) [])                                         (L3.IEs.nil))))))                               (L3.ISs.cons (L3.IS.ret (L3.IE.con (L3.LV.bl false))) (L3.ISs.nil))                               (L3.ISs.nil))                             (L3.ISs.nil))))))))))           (L3.ISs.cons (L3.IS.ret (L3.IE.con (L3.LV.bl true))) (L3.ISs.nil)))))))
def d12 : L3.FD := ⟨F12, "_law_case", "_law_case", L2.defArgs s12, L2.defBody s12, L2.defScope s12, N12, ir12⟩
theorem sc12 : FnScope N12 F12.ps (L2.defScope s12) := ⟨rfl, rfl, rfl, by decide +kernel, by decide +kernel, by decide +kernel, by decide +kernel⟩
theorem tr12 : L3.cFn tl.pd nm N12 (L2.defScope s12) (L2.defBody s12) = some ir12 := by kernel_rfl
theorem bi12 (K : PySem.W.Frag) (fd : FuncData) (F : FunD K d12.name d12.qual d12.params d12.body d12.scope (F12.dfl.map (L3.vx tl.pd.T K fun _ => 0)) [] (He.fAd K F12.at_) fd) (j : Nat) (h : j ≤ F12.dfl.length) : ∃ ds, Vals ((F12.dfl.drop j).map (L3.vx tl.pd.T K fun _ => 0)) ds ∧ Binds K fd F12.ps ds := by
  have e : j = 0 := Nat.le_zero.mp h
  subst e
  exact ⟨[], .nil, FunD.bindsN F fun _ _ _ _ _ _ us hl => match us, hl with | [_], _ => rfl⟩
def ir13 : L3.ISs := (L3.ISs.cons   (L3.IS.for_     [1]     (L3.IG.name 1)     (L3.II.rng1       (L3.IE.prim         (L3.P.max2)         (L3.IEs.cons           (L3.IE.con (L3.LV.int 2))           (L3.IEs.cons             (L3.IE.prim               (L3.P.min2)               (L3.IEs.cons                 (L3.IE.con (L3.LV.int 10))                 (L3.IEs.cons (L3.IE.prim (L3.P.len) (L3.IEs.cons (L3.IE.var 0) (L3.IEs.nil))) (L3.IEs.nil))))             (L3.IEs.nil)))))     (L3.ISs.cons       (L3.IS.ite         (L3.IE.prim           (L3.P.not)           (L3.IEs.cons             (L3.IE.call               12               (L3.IEs.cons                 (L3.IE.call                   5                   (L3.IEs.cons                     (L3.IE.call 4 (L3.IEs.cons (L3.IE.var 0) (L3.IEs.cons (L3.IE.var 1) (L3.IEs.nil))) [])                     (L3.IEs.nil))                   [])                 (L3.IEs.nil))               [])             (L3.IEs.nil)))         (L3.ISs.cons (L3.IS.ret (L3.IE.con (L3.LV.bl false))) (L3.ISs.nil))         (L3.ISs.nil))       (L3.ISs.nil)))   (L3.ISs.cons (L3.IS.ret (L3.IE.con (L3.LV.bl true))) (L3.ISs.nil)))
def d13 : L3.FD := ⟨F13, "law", "law", L2.defArgs s13, L2.defBody s13, L2.defScope s13, N13, ir13⟩
theorem sc13 : FnScope N13 F13.ps (L2.defScope s13) := ⟨rfl, rfl, rfl, by decide +kernel, by decide +kernel, by decide +kernel, by decide +kernel⟩
theorem tr13 : L3.cFn tl.pd nm N13 (L2.defScope s13) (L2.defBody s13) = some ir13 := by kernel_rfl
theorem bi13 (K : PySem.W.Frag) (fd : FuncData) (F : FunD K d13.name d13.qual d13.params d13.body d13.scope (F13.dfl.map (L3.vx tl.pd.T K fun _ => 0)) [] (He.fAd K F13.at_) fd) (j : Nat) (h : j ≤ F13.dfl.length) : ∃ ds, Vals ((F13.dfl.drop j).map (L3.vx tl.pd.T K fun _ => 0)) ds ∧ Binds K fd F13.ps ds := by
  have e : j = 0 := Nat.le_zero.mp h
  subst e
  exact ⟨[], .nil, FunD.bindsN F fun _ _ _ _ _ _ us hl => match us, hl with | [_], _ => rfl⟩
def ir14 : L3.ISs := (L3.ISs.cons   (L3.IS.expr (L3.IE.call 3 (L3.IEs.cons (L3.IE.var 1) (L3.IEs.cons (L3.IE.var 2) (L3.IEs.nil))) []))   (L3.ISs.cons (L3.IS.asg (L3.IG.fld (L3.IE.var 0) 0) (L3.IE.var 1)) (L3.ISs.nil)))
def d14 : L3.FD := ⟨F14, "__init__", "End.__init__", L2.defArgs s14, L2.defBody s14, L2.defScope s14, N14, ir14⟩
theorem sc14 : FnScope N14 F14.ps (L2.defScope s14) := ⟨rfl, rfl, rfl, by decide +kernel, by decide +kernel, by decide +kernel, by decide +kernel⟩
theorem tr14 : L3.cFn tl.pd nm N14 (L2.defScope s14) (L2.defBody s14) = some ir14 := by kernel_rfl
theorem bi14 (K : PySem.W.Frag) (fd : FuncData) (F : FunD K d14.name d14.qual d14.params d14.body d14.scope (F14.dfl.map (L3.vx tl.pd.T K fun _ => 0)) [] (He.fAd K F14.at_) fd) (j : Nat) (h : j ≤ F14.dfl.length) : ∃ ds, Vals ((F14.dfl.drop j).map (L3.vx tl.pd.T K fun _ => 0)) ds ∧ Binds K fd F14.ps ds := by
  have e : j = 0 := Nat.le_zero.mp h
  subst e
  exact ⟨[], .nil, FunD.bindsN F fun _ _ _ _ _ _ us hl => match us, hl with | [_, _, _], _ => rfl⟩
def ir15 : L3.ISs := (L3.ISs.cons (L3.IS.ret (L3.IE.prim (L3.P.fld 0) (L3.IEs.cons (L3.IE.var 0) (L3.IEs.nil)))) (L3.ISs.nil))
def d15 : L3.FD := ⟨F15, "word", "End.word", L2.defArgs s15, L2.defBody s15, L2.defScope s15, N15, ir15⟩
theorem sc15 : FnScope N15 F15.ps (L2.defScope s15) := ⟨rfl, rfl, rfl, by decide +kernel, by decide +kernel, by decide +kernel, by decide +kernel⟩
theorem tr15 : L3.cFn tl.pd nm N15 (L2.defScope s15) (L2.defBody s15) = some ir15 := by kernel_rfl
theorem bi15 (K : PySem.W.Frag) (fd : FuncData) (F : FunD K d15.name d15.qual d15.params d15.body d15.scope (F15.dfl.map (L3.vx tl.pd.T K fun _ => 0)) [] (He.fAd K F15.at_) fd) (j : Nat) (h : j ≤ F15.dfl.length) : ∃ ds, Vals ((F15.dfl.drop j).map (L3.vx tl.pd.T K fun _ => 0)) ds ∧ Binds K fd F15.ps ds := by
  have e : j = 0 := Nat.le_zero.mp h
  subst e
  exact ⟨[], .nil, FunD.bindsN F fun _ _ _ _ _ _ us hl => match us, hl with | [_], _ => rfl⟩
def ir16 : L3.ISs := (L3.ISs.cons (L3.IS.ret (L3.IE.con (L3.LV.non))) (L3.ISs.nil))
def d16 : L3.FD := ⟨F16, "behind_ring", "End.behind_ring", L2.defArgs s16, L2.defBody s16, L2.defScope s16, N16, ir16⟩
theorem sc16 : FnScope N16 F16.ps (L2.defScope s16) := ⟨rfl, rfl, rfl, by decide +kernel, by decide +kernel, by decide +kernel, by decide +kernel⟩
theorem tr16 : L3.cFn tl.pd nm N16 (L2.defScope s16) (L2.defBody s16) = some ir16 := by kernel_rfl
theorem bi16 (K : PySem.W.Frag) (fd : FuncData) (F : FunD K d16.name d16.qual d16.params d16.body d16.scope (F16.dfl.map (L3.vx tl.pd.T K fun _ => 0)) [] (He.fAd K F16.at_) fd) (j : Nat) (h : j ≤ F16.dfl.length) : ∃ ds, Vals ((F16.dfl.drop j).map (L3.vx tl.pd.T K fun _ => 0)) ds ∧ Binds K fd F16.ps ds := by
  have e : j = 0 := Nat.le_zero.mp h
  subst e
  exact ⟨[], .nil, FunD.bindsN F fun _ _ _ _ _ _ us hl => match us, hl with | [_, _], _ => rfl⟩
def ir17 : L3.ISs := (L3.ISs.cons (L3.IS.ret (L3.IE.prim (L3.P.fld 0) (L3.IEs.cons (L3.IE.var 0) (L3.IEs.nil)))) (L3.ISs.nil))
def d17 : L3.FD := ⟨F17, "behind_hearing", "End.behind_hearing", L2.defArgs s17, L2.defBody s17, L2.defScope s17, N17, ir17⟩
theorem sc17 : FnScope N17 F17.ps (L2.defScope s17) := ⟨rfl, rfl, rfl, by decide +kernel, by decide +kernel, by decide +kernel, by decide +kernel⟩
theorem tr17 : L3.cFn tl.pd nm N17 (L2.defScope s17) (L2.defBody s17) = some ir17 := by kernel_rfl
theorem bi17 (K : PySem.W.Frag) (fd : FuncData) (F : FunD K d17.name d17.qual d17.params d17.body d17.scope (F17.dfl.map (L3.vx tl.pd.T K fun _ => 0)) [] (He.fAd K F17.at_) fd) (j : Nat) (h : j ≤ F17.dfl.length) : ∃ ds, Vals ((F17.dfl.drop j).map (L3.vx tl.pd.T K fun _ => 0)) ds ∧ Binds K fd F17.ps ds := by
  have e : j = 0 := Nat.le_zero.mp h
  subst e
  exact ⟨[], .nil, FunD.bindsN F fun _ _ _ _ _ _ us hl => match us, hl with | [_, _], _ => rfl⟩
def ir18 : L3.ISs := (L3.ISs.cons   (L3.IS.ret     (L3.IE.prim       (L3.P.eq)       (L3.IEs.cons         (L3.IE.prim (L3.P.fld 0) (L3.IEs.cons (L3.IE.var 0) (L3.IEs.nil)))         (L3.IEs.cons (L3.IE.con (L3.LV.str [114, 101, 115, 116])) (L3.IEs.nil)))))   (L3.ISs.nil))
def d18 : L3.FD := ⟨F18, "is_resting", "End.is_resting", L2.defArgs s18, L2.defBody s18, L2.defScope s18, N18, ir18⟩
theorem sc18 : FnScope N18 F18.ps (L2.defScope s18) := ⟨rfl, rfl, rfl, by decide +kernel, by decide +kernel, by decide +kernel, by decide +kernel⟩
theorem tr18 : L3.cFn tl.pd nm N18 (L2.defScope s18) (L2.defBody s18) = some ir18 := by kernel_rfl
theorem bi18 (K : PySem.W.Frag) (fd : FuncData) (F : FunD K d18.name d18.qual d18.params d18.body d18.scope (F18.dfl.map (L3.vx tl.pd.T K fun _ => 0)) [] (He.fAd K F18.at_) fd) (j : Nat) (h : j ≤ F18.dfl.length) : ∃ ds, Vals ((F18.dfl.drop j).map (L3.vx tl.pd.T K fun _ => 0)) ds ∧ Binds K fd F18.ps ds := by
  have e : j = 0 := Nat.le_zero.mp h
  subst e
  exact ⟨[], .nil, FunD.bindsN F fun _ _ _ _ _ _ us hl => match us, hl with | [_], _ => rfl⟩
def ir19 : L3.ISs := (L3.ISs.cons   (L3.IS.ret     (L3.IE.comp       [1]       (L3.IG.name 1)       (L3.II.seq (L3.IE.call 0 (L3.IEs.nil) []))       (L3.IE.prim         (L3.P.notN)         (L3.IEs.cons (L3.IE.meth 1 (L3.IE.var 0) (L3.IEs.cons (L3.IE.var 1) (L3.IEs.nil))) (L3.IEs.nil)))       (L3.IE.var 1)))   (L3.ISs.nil))
def d19 : L3.FD := ⟨F19, "rings", "End.rings", L2.defArgs s19, L2.defBody s19, L2.defScope s19, N19, ir19⟩
theorem sc19 : FnScope N19 F19.ps (L2.defScope s19) := ⟨rfl, rfl, rfl, by decide +kernel, by decide +kernel, by decide +kernel, by decide +kernel⟩
theorem tr19 : L3.cFn tl.pd nm N19 (L2.defScope s19) (L2.defBody s19) = some ir19 := by kernel_rfl
theorem bi19 (K : PySem.W.Frag) (fd : FuncData) (F : FunD K d19.name d19.qual d19.params d19.body d19.scope (F19.dfl.map (L3.vx tl.pd.T K fun _ => 0)) [] (He.fAd K F19.at_) fd) (j : Nat) (h : j ≤ F19.dfl.length) : ∃ ds, Vals ((F19.dfl.drop j).map (L3.vx tl.pd.T K fun _ => 0)) ds ∧ Binds K fd F19.ps ds := by
  have e : j = 0 := Nat.le_zero.mp h
  subst e
  exact ⟨[], .nil, FunD.bindsN F fun _ _ _ _ _ _ us hl => match us, hl with | [_], _ => rfl⟩
def ir20 : L3.ISs := (L3.ISs.cons   (L3.IS.expr (L3.IE.call 3 (L3.IEs.cons (L3.IE.var 1) (L3.IEs.cons (L3.IE.call 0 (L3.IEs.nil) []) (L3.IEs.nil))) []))   (L3.ISs.cons     (L3.IS.expr       (L3.IE.meth         7         (L3.IE.var 0)         (L3.IEs.cons           (L3.IE.meth 1 (L3.IE.var 0) (L3.IEs.cons (L3.IE.var 1) (L3.IEs.nil)))           (L3.IEs.cons (L3.IE.var 1) (L3.IEs.nil)))))     (L3.ISs.nil)))
def d20 : L3.FD := ⟨F20, "rung", "End.rung", L2.defArgs s20, L2.defBody s20, L2.defScope s20, N20, ir20⟩
theorem sc20 : FnScope N20 F20.ps (L2.defScope s20) := ⟨rfl, rfl, rfl, by decide +kernel, by decide +kernel, by decide +kernel, by decide +kernel⟩
theorem tr20 : L3.cFn tl.pd nm N20 (L2.defScope s20) (L2.defBody s20) = some ir20 := by kernel_rfl
theorem bi20 (K : PySem.W.Frag) (fd : FuncData) (F : FunD K d20.name d20.qual d20.params d20.body d20.scope (F20.dfl.map (L3.vx tl.pd.T K fun _ => 0)) [] (He.fAd K F20.at_) fd) (j : Nat) (h : j ≤ F20.dfl.length) : ∃ ds, Vals ((F20.dfl.drop j).map (L3.vx tl.pd.T K fun _ => 0)) ds ∧ Binds K fd F20.ps ds := by
  have e : j = 0 := Nat.le_zero.mp h
  subst e
  exact ⟨[], .nil, FunD.bindsN F fun _ _ _ _ _ _ us hl => match us, hl with | [_, _], _ => rfl⟩
def ir21 : L3.ISs := (L3.ISs.cons   (L3.IS.expr (L3.IE.call 3 (L3.IEs.cons (L3.IE.var 1) (L3.IEs.cons (L3.IE.call 0 (L3.IEs.nil) []) (L3.IEs.nil))) []))   (L3.ISs.cons     (L3.IS.asg (L3.IG.fld (L3.IE.var 0) 0) (L3.IE.meth 2 (L3.IE.var 0) (L3.IEs.cons (L3.IE.var 1) (L3.IEs.nil))))     (L3.ISs.nil)))
def d21 : L3.FD := ⟨F21, "hears", "End.hears", L2.defArgs s21, L2.defBody s21, L2.defScope s21, N21, ir21⟩
theorem sc21 : FnScope N21 F21.ps (L2.defScope s21) := ⟨rfl, rfl, rfl, by decide +kernel, by decide +kernel, by decide +kernel, by decide +kernel⟩
theorem tr21 : L3.cFn tl.pd nm N21 (L2.defScope s21) (L2.defBody s21) = some ir21 := by kernel_rfl
theorem bi21 (K : PySem.W.Frag) (fd : FuncData) (F : FunD K d21.name d21.qual d21.params d21.body d21.scope (F21.dfl.map (L3.vx tl.pd.T K fun _ => 0)) [] (He.fAd K F21.at_) fd) (j : Nat) (h : j ≤ F21.dfl.length) : ∃ ds, Vals ((F21.dfl.drop j).map (L3.vx tl.pd.T K fun _ => 0)) ds ∧ Binds K fd F21.ps ds := by
  have e : j = 0 := Nat.le_zero.mp h
  subst e
  exact ⟨[], .nil, FunD.bindsN F fun _ _ _ _ _ _ us hl => match us, hl with | [_, _], _ => rfl⟩
def ir22 : L3.ISs := (L3.ISs.cons   (L3.IS.ite     (L3.IE.prim (L3.P.isN) (L3.IEs.cons (L3.IE.var 1) (L3.IEs.nil)))     (L3.ISs.cons (L3.IS.bad) (L3.ISs.nil))     (L3.ISs.nil))   (L3.ISs.cons (L3.IS.asg (L3.IG.fld (L3.IE.var 0) 0) (L3.IE.var 1)) (L3.ISs.nil)))
def d22 : L3.FD := ⟨F22, "go_on", "End.go_on", L2.defArgs s22, L2.defBody s22, L2.defScope s22, N22, ir22⟩
theorem sc22 : FnScope N22 F22.ps (L2.defScope s22) := ⟨rfl, rfl, rfl, by decide +kernel, by decide +kernel, by decide +kernel, by decide +kernel⟩
theorem tr22 : L3.cFn tl.pd nm N22 (L2.defScope s22) (L2.defBody s22) = some ir22 := by kernel_rfl
theorem bi22 (K : PySem.W.Frag) (fd : FuncData) (F : FunD K d22.name d22.qual d22.params d22.body d22.scope (F22.dfl.map (L3.vx tl.pd.T K fun _ => 0)) [] (He.fAd K F22.at_) fd) (j : Nat) (h : j ≤ F22.dfl.length) : ∃ ds, Vals ((F22.dfl.drop j).map (L3.vx tl.pd.T K fun _ => 0)) ds ∧ Binds K fd F22.ps ds := by
  have e : j = 0 := Nat.le_zero.mp h
  subst e
  exact ⟨[], .nil, FunD.bindsN F fun _ _ _ _ _ _ us hl => match us, hl with | [_, _, _], _ => rfl⟩
def ir23 : L3.ISs := (L3.ISs.cons   (L3.IS.expr     (L3.IE.call       14       (L3.IEs.cons (L3.IE.var 0) (L3.IEs.cons (L3.IE.var 1) (L3.IEs.cons (L3.IE.call 1 (L3.IEs.nil) []) (L3.IEs.nil))))       []))   (L3.ISs.nil))
def d23 : L3.FD := ⟨F23, "__init__", "Fore.__init__", L2.defArgs s23, L2.defBody s23, L2.defScope s23, N23, ir23⟩
theorem sc23 : FnScope N23 F23.ps (L2.defScope s23) := ⟨rfl, rfl, rfl, by decide +kernel, by decide +kernel, by decide +kernel, by decide +kernel⟩
theorem tr23 : L3.cFn tl.pd nm N23 (L2.defScope s23) (L2.defBody s23) = some ir23 := by kernel_rfl
theorem bi23 (K : PySem.W.Frag) (fd : FuncData) (F : FunD K d23.name d23.qual d23.params d23.body d23.scope (F23.dfl.map (L3.vx tl.pd.T K fun _ => 0)) [] (He.fAd K F23.at_) fd) (j : Nat) (h : j ≤ F23.dfl.length) : ∃ ds, Vals ((F23.dfl.drop j).map (L3.vx tl.pd.T K fun _ => 0)) ds ∧ Binds K fd F23.ps ds := by
  match j, h with
  | 0, _ => obtain ⟨ds, h1, h2⟩ := FunD.binds1 (ps := F23.ps) F 1 0 (by intro z; cases z) rfl (fun _ _ _ _ _ _ _ us its hu hi => ⟨_, rfl, match us, hu, its, hi with | [_], _, [_], _ => rfl⟩); exact ⟨ds, h1, h2⟩
  | 1, _ => obtain ⟨ds, h1, h2⟩ := FunD.binds1 (ps := F23.ps) F 2 1 (by intro z; cases z) rfl (fun _ _ _ _ _ _ _ us its hu hi => ⟨_, rfl, match us, hu, its, hi with | [_, _], _, [_], _ => rfl⟩); exact ⟨ds, h1, h2⟩
def ir24 : L3.ISs := (L3.ISs.cons   (L3.IS.ite     (L3.IE.and       (L3.IE.prim         (L3.P.eq)         (L3.IEs.cons (L3.IE.var 1) (L3.IEs.cons (L3.IE.con (L3.LV.str [111, 102, 102, 101, 114])) (L3.IEs.nil))))       (L3.IE.prim         (L3.P.inn)         (L3.IEs.cons           (L3.IE.prim (L3.P.fld 0) (L3.IEs.cons (L3.IE.var 0) (L3.IEs.nil)))           (L3.IEs.cons             (L3.IE.prim               (L3.P.tup)               (L3.IEs.cons                 (L3.IE.con (L3.LV.str [114, 101, 115, 116]))                 (L3.IEs.cons (L3.IE.con (L3.LV.str [111, 102, 102, 101, 114, 101, 100])) (L3.IEs.nil))))             (L3.IEs.nil)))))     (L3.ISs.cons (L3.IS.ret (L3.IE.con (L3.LV.str [111, 102, 102, 101, 114, 101, 100]))) (L3.ISs.nil))     (L3.ISs.nil))   (L3.ISs.cons     (L3.IS.ite       (L3.IE.and         (L3.IE.prim (L3.P.eq) (L3.IEs.cons (L3.IE.var 1) (L3.IEs.cons (L3.IE.con (L3.LV.str [111, 110])) (L3.IEs.nil))))         (L3.IE.prim           (L3.P.eq)           (L3.IEs.cons             (L3.IE.prim (L3.P.fld 0) (L3.IEs.cons (L3.IE.var 0) (L3.IEs.nil)))             (L3.IEs.cons (L3.IE.con (L3.LV.str [111, 110])) (L3.IEs.nil)))))       (L3.ISs.cons (L3.IS.ret (L3.IE.con (L3.LV.str [111, 110]))) (L3.ISs.nil))       (L3.ISs.nil))     (L3.ISs.cons       (L3.IS.ite         (L3.IE.and           (L3.IE.prim             (L3.P.eq)             (L3.IEs.cons (L3.IE.var 1) (L3.IEs.cons (L3.IE.con (L3.LV.str [98, 97, 99, 107])) (L3.IEs.nil))))           (L3.IE.prim             (L3.P.inn)             (L3.IEs.cons               (L3.IE.prim (L3.P.fld 0) (L3.IEs.cons (L3.IE.var 0) (L3.IEs.nil)))               (L3.IEs.cons                 (L3.IE.prim                   (L3.P.tup)                   (L3.IEs.cons                     (L3.IE.con (L3.LV.str [116, 97, 107, 101, 110]))                     (L3.IEs.cons (L3.IE.con (L3.LV.str [98, 97, 99, 107])) (L3.IEs.nil))))                 (L3.IEs.nil)))))         (L3.ISs.cons (L3.IS.ret (L3.IE.con (L3.LV.str [98, 97, 99, 107]))) (L3.ISs.nil))         (L3.ISs.nil))       (L3.ISs.cons (L3.IS.ret (L3.IE.con (L3.LV.non))) (L3.ISs.nil)))))
def d24 : L3.FD := ⟨F24, "behind_ring", "Fore.behind_ring", L2.defArgs s24, L2.defBody s24, L2.defScope s24, N24, ir24⟩
theorem sc24 : FnScope N24 F24.ps (L2.defScope s24) := ⟨rfl, rfl, rfl, by decide +kernel, by decide +kernel, by decide +kernel, by decide +kernel⟩
theorem tr24 : L3.cFn tl.pd nm N24 (L2.defScope s24) (L2.defBody s24) = some ir24 := by kernel_rfl
theorem bi24 (K : PySem.W.Frag) (fd : FuncData) (F : FunD K d24.name d24.qual d24.params d24.body d24.scope (F24.dfl.map (L3.vx tl.pd.T K fun _ => 0)) [] (He.fAd K F24.at_) fd) (j : Nat) (h : j ≤ F24.dfl.length) : ∃ ds, Vals ((F24.dfl.drop j).map (L3.vx tl.pd.T K fun _ => 0)) ds ∧ Binds K fd F24.ps ds := by
  have e : j = 0 := Nat.le_zero.mp h
  subst e
  exact ⟨[], .nil, FunD.bindsN F fun _ _ _ _ _ _ us hl => match us, hl with | [_, _], _ => rfl⟩
def ir25 : L3.ISs := (L3.ISs.cons   (L3.IS.ite     (L3.IE.and       (L3.IE.prim         (L3.P.eq)         (L3.IEs.cons (L3.IE.var 1) (L3.IEs.cons (L3.IE.con (L3.LV.str [116, 97, 107, 101, 110])) (L3.IEs.nil))))       (L3.IE.prim         (L3.P.eq)         (L3.IEs.cons           (L3.IE.prim (L3.P.fld 0) (L3.IEs.cons (L3.IE.var 0) (L3.IEs.nil)))           (L3.IEs.cons (L3.IE.con (L3.LV.str [111, 102, 102, 101, 114, 101, 100])) (L3.IEs.nil)))))     (L3.ISs.cons (L3.IS.ret (L3.IE.con (L3.LV.str [116, 97, 107, 101, 110]))) (L3.ISs.nil))     (L3.ISs.nil))   (L3.ISs.cons     (L3.IS.ite       (L3.IE.and         (L3.IE.prim           (L3.P.eq)           (L3.IEs.cons (L3.IE.var 1) (L3.IEs.cons (L3.IE.con (L3.LV.str [111, 117, 116])) (L3.IEs.nil))))         (L3.IE.prim           (L3.P.inn)           (L3.IEs.cons             (L3.IE.prim (L3.P.fld 0) (L3.IEs.cons (L3.IE.var 0) (L3.IEs.nil)))             (L3.IEs.cons               (L3.IE.prim                 (L3.P.tup)                 (L3.IEs.cons                   (L3.IE.con (L3.LV.str [111, 110]))                   (L3.IEs.cons (L3.IE.con (L3.LV.str [98, 97, 99, 107])) (L3.IEs.nil))))               (L3.IEs.nil)))))       (L3.ISs.cons (L3.IS.ret (L3.IE.con (L3.LV.str [114, 101, 115, 116]))) (L3.ISs.nil))       (L3.ISs.nil))     (L3.ISs.cons (L3.IS.ret (L3.IE.prim (L3.P.fld 0) (L3.IEs.cons (L3.IE.var 0) (L3.IEs.nil)))) (L3.ISs.nil))))
def d25 : L3.FD := ⟨F25, "behind_hearing", "Fore.behind_hearing", L2.defArgs s25, L2.defBody s25, L2.defScope s25, N25, ir25⟩
theorem sc25 : FnScope N25 F25.ps (L2.defScope s25) := ⟨rfl, rfl, rfl, by decide +kernel, by decide +kernel, by decide +kernel, by decide +kernel⟩
theorem tr25 : L3.cFn tl.pd nm N25 (L2.defScope s25) (L2.defBody s25) = some ir25 := by kernel_rfl
theorem bi25 (K : PySem.W.Frag) (fd : FuncData) (F : FunD K d25.name d25.qual d25.params d25.body d25.scope (F25.dfl.map (L3.vx tl.pd.T K fun _ => 0)) [] (He.fAd K F25.at_) fd) (j : Nat) (h : j ≤ F25.dfl.length) : ∃ ds, Vals ((F25.dfl.drop j).map (L3.vx tl.pd.T K fun _ => 0)) ds ∧ Binds K fd F25.ps ds := by
  have e : j = 0 := Nat.le_zero.mp h
  subst e
  exact ⟨[], .nil, FunD.bindsN F fun _ _ _ _ _ _ us hl => match us, hl with | [_, _], _ => rfl⟩
def ir26 : L3.ISs := (L3.ISs.cons   (L3.IS.expr     (L3.IE.meth       7       (L3.IE.var 0)       (L3.IEs.cons         (L3.IE.bmeth           (L3.Bk.dic)           (L3.P.get1)           (L3.IE.prim             (L3.P.dct)             (L3.IEs.cons               (L3.IE.con (L3.LV.str [116, 97, 107, 101, 110]))               (L3.IEs.cons (L3.IE.con (L3.LV.str [111, 110])) (L3.IEs.nil))))           (L3.IEs.cons (L3.IE.prim (L3.P.fld 0) (L3.IEs.cons (L3.IE.var 0) (L3.IEs.nil))) (L3.IEs.nil)))         (L3.IEs.cons (L3.IE.con (L3.LV.str [105, 110])) (L3.IEs.nil)))))   (L3.ISs.nil))
def d26 : L3.FD := ⟨F26, "enters", "Fore.enters", L2.defArgs s26, L2.defBody s26, L2.defScope s26, N26, ir26⟩
theorem sc26 : FnScope N26 F26.ps (L2.defScope s26) := ⟨rfl, rfl, rfl, by decide +kernel, by decide +kernel, by decide +kernel, by decide +kernel⟩
theorem tr26 : L3.cFn tl.pd nm N26 (L2.defScope s26) (L2.defBody s26) = some ir26 := by kernel_rfl
theorem bi26 (K : PySem.W.Frag) (fd : FuncData) (F : FunD K d26.name d26.qual d26.params d26.body d26.scope (F26.dfl.map (L3.vx tl.pd.T K fun _ => 0)) [] (He.fAd K F26.at_) fd) (j : Nat) (h : j ≤ F26.dfl.length) : ∃ ds, Vals ((F26.dfl.drop j).map (L3.vx tl.pd.T K fun _ => 0)) ds ∧ Binds K fd F26.ps ds := by
  have e : j = 0 := Nat.le_zero.mp h
  subst e
  exact ⟨[], .nil, FunD.bindsN F fun _ _ _ _ _ _ us hl => match us, hl with | [_], _ => rfl⟩
def ir27 : L3.ISs := (L3.ISs.cons   (L3.IS.expr     (L3.IE.meth       7       (L3.IE.var 0)       (L3.IEs.cons         (L3.IE.bmeth           (L3.Bk.dic)           (L3.P.get1)           (L3.IE.prim             (L3.P.dct)             (L3.IEs.cons               (L3.IE.con (L3.LV.str [111, 110]))               (L3.IEs.cons (L3.IE.con (L3.LV.str [98, 97, 99, 107])) (L3.IEs.nil))))           (L3.IEs.cons (L3.IE.prim (L3.P.fld 0) (L3.IEs.cons (L3.IE.var 0) (L3.IEs.nil))) (L3.IEs.nil)))         (L3.IEs.cons (L3.IE.con (L3.LV.str [114, 101, 116, 117, 114, 110])) (L3.IEs.nil)))))   (L3.ISs.nil))
def d27 : L3.FD := ⟨F27, "returned", "Fore.returned", L2.defArgs s27, L2.defBody s27, L2.defScope s27, N27, ir27⟩
theorem sc27 : FnScope N27 F27.ps (L2.defScope s27) := ⟨rfl, rfl, rfl, by decide +kernel, by decide +kernel, by decide +kernel, by decide +kernel⟩
theorem tr27 : L3.cFn tl.pd nm N27 (L2.defScope s27) (L2.defBody s27) = some ir27 := by kernel_rfl
theorem bi27 (K : PySem.W.Frag) (fd : FuncData) (F : FunD K d27.name d27.qual d27.params d27.body d27.scope (F27.dfl.map (L3.vx tl.pd.T K fun _ => 0)) [] (He.fAd K F27.at_) fd) (j : Nat) (h : j ≤ F27.dfl.length) : ∃ ds, Vals ((F27.dfl.drop j).map (L3.vx tl.pd.T K fun _ => 0)) ds ∧ Binds K fd F27.ps ds := by
  have e : j = 0 := Nat.le_zero.mp h
  subst e
  exact ⟨[], .nil, FunD.bindsN F fun _ _ _ _ _ _ us hl => match us, hl with | [_], _ => rfl⟩
def ir28 : L3.ISs := (L3.ISs.cons   (L3.IS.ret     (L3.IE.make 1 (L3.IEs.cons (L3.IE.prim (L3.P.fld 0) (L3.IEs.cons (L3.IE.var 0) (L3.IEs.nil))) (L3.IEs.nil)) []))   (L3.ISs.nil))
def d28 : L3.FD := ⟨F28, "twin", "Fore.twin", L2.defArgs s28, L2.defBody s28, L2.defScope s28, N28, ir28⟩
theorem sc28 : FnScope N28 F28.ps (L2.defScope s28) := ⟨rfl, rfl, rfl, by decide +kernel, by decide +kernel, by decide +kernel, by decide +kernel⟩
theorem tr28 : L3.cFn tl.pd nm N28 (L2.defScope s28) (L2.defBody s28) = some ir28 := by kernel_rfl
theorem bi28 (K : PySem.W.Frag) (fd : FuncData) (F : FunD K d28.name d28.qual d28.params d28.body d28.scope (F28.dfl.map (L3.vx tl.pd.T K fun _ => 0)) [] (He.fAd K F28.at_) fd) (j : Nat) (h : j ≤ F28.dfl.length) : ∃ ds, Vals ((F28.dfl.drop j).map (L3.vx tl.pd.T K fun _ => 0)) ds ∧ Binds K fd F28.ps ds := by
  have e : j = 0 := Nat.le_zero.mp h
  subst e
  exact ⟨[], .nil, FunD.bindsN F fun _ _ _ _ _ _ us hl => match us, hl with | [_], _ => rfl⟩
def ir29 : L3.ISs := (L3.ISs.cons   (L3.IS.ret     (L3.IE.and       (L3.IE.prim (L3.P.isi [L3.Ty.own 1]) (L3.IEs.cons (L3.IE.var 1) (L3.IEs.nil)))       (L3.IE.prim         (L3.P.eq)         (L3.IEs.cons           (L3.IE.meth 0 (L3.IE.var 1) (L3.IEs.nil))           (L3.IEs.cons (L3.IE.prim (L3.P.fld 0) (L3.IEs.cons (L3.IE.var 0) (L3.IEs.nil))) (L3.IEs.nil))))))   (L3.ISs.nil))
def d29 : L3.FD := ⟨F29, "same", "Fore.same", L2.defArgs s29, L2.defBody s29, L2.defScope s29, N29, ir29⟩
theorem sc29 : FnScope N29 F29.ps (L2.defScope s29) := ⟨rfl, rfl, rfl, by decide +kernel, by decide +kernel, by decide +kernel, by decide +kernel⟩
theorem tr29 : L3.cFn tl.pd nm N29 (L2.defScope s29) (L2.defBody s29) = some ir29 := by kernel_rfl
theorem bi29 (K : PySem.W.Frag) (fd : FuncData) (F : FunD K d29.name d29.qual d29.params d29.body d29.scope (F29.dfl.map (L3.vx tl.pd.T K fun _ => 0)) [] (He.fAd K F29.at_) fd) (j : Nat) (h : j ≤ F29.dfl.length) : ∃ ds, Vals ((F29.dfl.drop j).map (L3.vx tl.pd.T K fun _ => 0)) ds ∧ Binds K fd F29.ps ds := by
  have e : j = 0 := Nat.le_zero.mp h
  subst e
  exact ⟨[], .nil, FunD.bindsN F fun _ _ _ _ _ _ us hl => match us, hl with | [_, _], _ => rfl⟩
def ir30 : L3.ISs := (L3.ISs.cons   (L3.IS.expr     (L3.IE.call       14       (L3.IEs.cons (L3.IE.var 0) (L3.IEs.cons (L3.IE.var 1) (L3.IEs.cons (L3.IE.call 2 (L3.IEs.nil) []) (L3.IEs.nil))))       []))   (L3.ISs.nil))
def d30 : L3.FD := ⟨F30, "__init__", "Hind.__init__", L2.defArgs s30, L2.defBody s30, L2.defScope s30, N30, ir30⟩
theorem sc30 : FnScope N30 F30.ps (L2.defScope s30) := ⟨rfl, rfl, rfl, by decide +kernel, by decide +kernel, by decide +kernel, by decide +kernel⟩
theorem tr30 : L3.cFn tl.pd nm N30 (L2.defScope s30) (L2.defBody s30) = some ir30 := by kernel_rfl
theorem bi30 (K : PySem.W.Frag) (fd : FuncData) (F : FunD K d30.name d30.qual d30.params d30.body d30.scope (F30.dfl.map (L3.vx tl.pd.T K fun _ => 0)) [] (He.fAd K F30.at_) fd) (j : Nat) (h : j ≤ F30.dfl.length) : ∃ ds, Vals ((F30.dfl.drop j).map (L3.vx tl.pd.T K fun _ => 0)) ds ∧ Binds K fd F30.ps ds := by
  match j, h with
  | 0, _ => obtain ⟨ds, h1, h2⟩ := FunD.binds1 (ps := F30.ps) F 1 0 (by intro z; cases z) rfl (fun _ _ _ _ _ _ _ us its hu hi => ⟨_, rfl, match us, hu, its, hi with | [_], _, [_], _ => rfl⟩); exact ⟨ds, h1, h2⟩
  | 1, _ => obtain ⟨ds, h1, h2⟩ := FunD.binds1 (ps := F30.ps) F 2 1 (by intro z; cases z) rfl (fun _ _ _ _ _ _ _ us its hu hi => ⟨_, rfl, match us, hu, its, hi with | [_, _], _, [_], _ => rfl⟩); exact ⟨ds, h1, h2⟩
def ir31 : L3.ISs := (L3.ISs.cons   (L3.IS.ite     (L3.IE.and       (L3.IE.prim         (L3.P.eq)         (L3.IEs.cons (L3.IE.var 1) (L3.IEs.cons (L3.IE.con (L3.LV.str [116, 97, 107, 101, 110])) (L3.IEs.nil))))       (L3.IE.prim         (L3.P.inn)         (L3.IEs.cons           (L3.IE.prim (L3.P.fld 0) (L3.IEs.cons (L3.IE.var 0) (L3.IEs.nil)))           (L3.IEs.cons             (L3.IE.prim               (L3.P.tup)               (L3.IEs.cons                 (L3.IE.con (L3.LV.str [97, 115, 107, 101, 100]))                 (L3.IEs.cons (L3.IE.con (L3.LV.str [103, 105, 118, 101, 110])) (L3.IEs.nil))))             (L3.IEs.nil)))))     (L3.ISs.cons (L3.IS.ret (L3.IE.con (L3.LV.str [103, 105, 118, 101, 110]))) (L3.ISs.nil))     (L3.ISs.nil))   (L3.ISs.cons     (L3.IS.ite       (L3.IE.and         (L3.IE.prim           (L3.P.eq)           (L3.IEs.cons (L3.IE.var 1) (L3.IEs.cons (L3.IE.con (L3.LV.str [111, 117, 116])) (L3.IEs.nil))))         (L3.IE.prim           (L3.P.inn)           (L3.IEs.cons             (L3.IE.prim (L3.P.fld 0) (L3.IEs.cons (L3.IE.var 0) (L3.IEs.nil)))             (L3.IEs.cons               (L3.IE.prim                 (L3.P.tup)                 (L3.IEs.cons                   (L3.IE.con (L3.LV.str [99, 108, 101, 97, 114]))                   (L3.IEs.cons (L3.IE.con (L3.LV.str [99, 108, 111, 115, 101, 100])) (L3.IEs.nil))))               (L3.IEs.nil)))))       (L3.ISs.cons (L3.IS.ret (L3.IE.con (L3.LV.str [99, 108, 111, 115, 101, 100]))) (L3.ISs.nil))       (L3.ISs.nil))     (L3.ISs.cons (L3.IS.ret (L3.IE.con (L3.LV.non))) (L3.ISs.nil))))
def d31 : L3.FD := ⟨F31, "behind_ring", "Hind.behind_ring", L2.defArgs s31, L2.defBody s31, L2.defScope s31, N31, ir31⟩
theorem sc31 : FnScope N31 F31.ps (L2.defScope s31) := ⟨rfl, rfl, rfl, by decide +kernel, by decide +kernel, by decide +kernel, by decide +kernel⟩
theorem tr31 : L3.cFn tl.pd nm N31 (L2.defScope s31) (L2.defBody s31) = some ir31 := by kernel_rfl
theorem bi31 (K : PySem.W.Frag) (fd : FuncData) (F : FunD K d31.name d31.qual d31.params d31.body d31.scope (F31.dfl.map (L3.vx tl.pd.T K fun _ => 0)) [] (He.fAd K F31.at_) fd) (j : Nat) (h : j ≤ F31.dfl.length) : ∃ ds, Vals ((F31.dfl.drop j).map (L3.vx tl.pd.T K fun _ => 0)) ds ∧ Binds K fd F31.ps ds := by
  have e : j = 0 := Nat.le_zero.mp h
  subst e
  exact ⟨[], .nil, FunD.bindsN F fun _ _ _ _ _ _ us hl => match us, hl with | [_, _], _ => rfl⟩
def ir32 : L3.ISs := (L3.ISs.cons   (L3.IS.ite     (L3.IE.and       (L3.IE.prim         (L3.P.eq)         (L3.IEs.cons (L3.IE.var 1) (L3.IEs.cons (L3.IE.con (L3.LV.str [111, 102, 102, 101, 114])) (L3.IEs.nil))))       (L3.IE.prim         (L3.P.inn)         (L3.IEs.cons           (L3.IE.prim (L3.P.fld 0) (L3.IEs.cons (L3.IE.var 0) (L3.IEs.nil)))           (L3.IEs.cons             (L3.IE.prim               (L3.P.tup)               (L3.IEs.cons                 (L3.IE.con (L3.LV.str [114, 101, 115, 116]))                 (L3.IEs.cons (L3.IE.con (L3.LV.str [99, 108, 111, 115, 101, 100])) (L3.IEs.nil))))             (L3.IEs.nil)))))     (L3.ISs.cons (L3.IS.ret (L3.IE.con (L3.LV.str [97, 115, 107, 101, 100]))) (L3.ISs.nil))     (L3.ISs.nil))   (L3.ISs.cons     (L3.IS.ite       (L3.IE.prim (L3.P.eq) (L3.IEs.cons (L3.IE.var 1) (L3.IEs.cons (L3.IE.con (L3.LV.str [111, 110])) (L3.IEs.nil))))       (L3.ISs.cons         (L3.IS.ret           (L3.IE.bmeth             (L3.Bk.dic)             (L3.P.get2)             (L3.IE.prim               (L3.P.dct)               (L3.IEs.cons                 (L3.IE.con (L3.LV.str [103, 105, 118, 101, 110]))                 (L3.IEs.cons                   (L3.IE.con (L3.LV.str [116, 111, 108, 100]))                   (L3.IEs.cons                     (L3.IE.con (L3.LV.str [112, 97, 115, 115, 101, 100]))                     (L3.IEs.cons (L3.IE.con (L3.LV.str [99, 108, 101, 97, 114])) (L3.IEs.nil))))))             (L3.IEs.cons               (L3.IE.prim (L3.P.fld 0) (L3.IEs.cons (L3.IE.var 0) (L3.IEs.nil)))               (L3.IEs.cons (L3.IE.prim (L3.P.fld 0) (L3.IEs.cons (L3.IE.var 0) (L3.IEs.nil))) (L3.IEs.nil)))))         (L3.ISs.nil))       (L3.ISs.nil))     (L3.ISs.cons       (L3.IS.ite         (L3.IE.and           (L3.IE.prim             (L3.P.eq)             (L3.IEs.cons (L3.IE.var 1) (L3.IEs.cons (L3.IE.con (L3.LV.str [98, 97, 99, 107])) (L3.IEs.nil))))           (L3.IE.prim             (L3.P.inn)             (L3.IEs.cons               (L3.IE.prim (L3.P.fld 0) (L3.IEs.cons (L3.IE.var 0) (L3.IEs.nil)))               (L3.IEs.cons                 (L3.IE.prim                   (L3.P.tup)                   (L3.IEs.cons                     (L3.IE.con (L3.LV.str [103, 105, 118, 101, 110]))                     (L3.IEs.cons (L3.IE.con (L3.LV.str [116, 111, 108, 100])) (L3.IEs.nil))))                 (L3.IEs.nil)))))         (L3.ISs.cons (L3.IS.ret (L3.IE.con (L3.LV.str [99, 108, 101, 97, 114]))) (L3.ISs.nil))         (L3.ISs.nil))       (L3.ISs.cons (L3.IS.ret (L3.IE.prim (L3.P.fld 0) (L3.IEs.cons (L3.IE.var 0) (L3.IEs.nil)))) (L3.ISs.nil)))))
def d32 : L3.FD := ⟨F32, "behind_hearing", "Hind.behind_hearing", L2.defArgs s32, L2.defBody s32, L2.defScope s32, N32, ir32⟩
theorem sc32 : FnScope N32 F32.ps (L2.defScope s32) := ⟨rfl, rfl, rfl, by decide +kernel, by decide +kernel, by decide +kernel, by decide +kernel⟩
theorem tr32 : L3.cFn tl.pd nm N32 (L2.defScope s32) (L2.defBody s32) = some ir32 := by kernel_rfl
theorem bi32 (K : PySem.W.Frag) (fd : FuncData) (F : FunD K d32.name d32.qual d32.params d32.body d32.scope (F32.dfl.map (L3.vx tl.pd.T K fun _ => 0)) [] (He.fAd K F32.at_) fd) (j : Nat) (h : j ≤ F32.dfl.length) : ∃ ds, Vals ((F32.dfl.drop j).map (L3.vx tl.pd.T K fun _ => 0)) ds ∧ Binds K fd F32.ps ds := by
  have e : j = 0 := Nat.le_zero.mp h
  subst e
  exact ⟨[], .nil, FunD.bindsN F fun _ _ _ _ _ _ us hl => match us, hl with | [_, _], _ => rfl⟩
def ir33 : L3.ISs := (L3.ISs.cons   (L3.IS.ret     (L3.IE.prim       (L3.P.inn)       (L3.IEs.cons         (L3.IE.prim (L3.P.fld 0) (L3.IEs.cons (L3.IE.var 0) (L3.IEs.nil)))         (L3.IEs.cons           (L3.IE.prim             (L3.P.tup)             (L3.IEs.cons               (L3.IE.con (L3.LV.str [114, 101, 115, 116]))               (L3.IEs.cons (L3.IE.con (L3.LV.str [99, 108, 111, 115, 101, 100])) (L3.IEs.nil))))           (L3.IEs.nil)))))   (L3.ISs.nil))
def d33 : L3.FD := ⟨F33, "is_resting", "Hind.is_resting", L2.defArgs s33, L2.defBody s33, L2.defScope s33, N33, ir33⟩
theorem sc33 : FnScope N33 F33.ps (L2.defScope s33) := ⟨rfl, rfl, rfl, by decide +kernel, by decide +kernel, by decide +kernel, by decide +kernel⟩
theorem tr33 : L3.cFn tl.pd nm N33 (L2.defScope s33) (L2.defBody s33) = some ir33 := by kernel_rfl
theorem bi33 (K : PySem.W.Frag) (fd : FuncData) (F : FunD K d33.name d33.qual d33.params d33.body d33.scope (F33.dfl.map (L3.vx tl.pd.T K fun _ => 0)) [] (He.fAd K F33.at_) fd) (j : Nat) (h : j ≤ F33.dfl.length) : ∃ ds, Vals ((F33.dfl.drop j).map (L3.vx tl.pd.T K fun _ => 0)) ds ∧ Binds K fd F33.ps ds := by
  have e : j = 0 := Nat.le_zero.mp h
  subst e
  exact ⟨[], .nil, FunD.bindsN F fun _ _ _ _ _ _ us hl => match us, hl with | [_], _ => rfl⟩
def ir34 : L3.ISs := (L3.ISs.cons   (L3.IS.expr     (L3.IE.meth       7       (L3.IE.var 0)       (L3.IEs.cons         (L3.IE.bmeth           (L3.Bk.dic)           (L3.P.get1)           (L3.IE.prim             (L3.P.dct)             (L3.IEs.cons               (L3.IE.con (L3.LV.str [103, 105, 118, 101, 110]))               (L3.IEs.cons                 (L3.IE.con (L3.LV.str [112, 97, 115, 115, 101, 100]))                 (L3.IEs.cons                   (L3.IE.con (L3.LV.str [116, 111, 108, 100]))                   (L3.IEs.cons (L3.IE.con (L3.LV.str [99, 108, 101, 97, 114])) (L3.IEs.nil))))))           (L3.IEs.cons (L3.IE.prim (L3.P.fld 0) (L3.IEs.cons (L3.IE.var 0) (L3.IEs.nil))) (L3.IEs.nil)))         (L3.IEs.cons (L3.IE.con (L3.LV.str [116, 97, 105, 108])) (L3.IEs.nil)))))   (L3.ISs.nil))
def d34 : L3.FD := ⟨F34, "tail_seen", "Hind.tail_seen", L2.defArgs s34, L2.defBody s34, L2.defScope s34, N34, ir34⟩
theorem sc34 : FnScope N34 F34.ps (L2.defScope s34) := ⟨rfl, rfl, rfl, by decide +kernel, by decide +kernel, by decide +kernel, by decide +kernel⟩
theorem tr34 : L3.cFn tl.pd nm N34 (L2.defScope s34) (L2.defBody s34) = some ir34 := by kernel_rfl
theorem bi34 (K : PySem.W.Frag) (fd : FuncData) (F : FunD K d34.name d34.qual d34.params d34.body d34.scope (F34.dfl.map (L3.vx tl.pd.T K fun _ => 0)) [] (He.fAd K F34.at_) fd) (j : Nat) (h : j ≤ F34.dfl.length) : ∃ ds, Vals ((F34.dfl.drop j).map (L3.vx tl.pd.T K fun _ => 0)) ds ∧ Binds K fd F34.ps ds := by
  have e : j = 0 := Nat.le_zero.mp h
  subst e
  exact ⟨[], .nil, FunD.bindsN F fun _ _ _ _ _ _ us hl => match us, hl with | [_], _ => rfl⟩
def ir35 : L3.ISs := (L3.ISs.cons   (L3.IS.ret     (L3.IE.make 2 (L3.IEs.cons (L3.IE.prim (L3.P.fld 0) (L3.IEs.cons (L3.IE.var 0) (L3.IEs.nil))) (L3.IEs.nil)) []))   (L3.ISs.nil))
def d35 : L3.FD := ⟨F35, "twin", "Hind.twin", L2.defArgs s35, L2.defBody s35, L2.defScope s35, N35, ir35⟩
theorem sc35 : FnScope N35 F35.ps (L2.defScope s35) := ⟨rfl, rfl, rfl, by decide +kernel, by decide +kernel, by decide +kernel, by decide +kernel⟩
theorem tr35 : L3.cFn tl.pd nm N35 (L2.defScope s35) (L2.defBody s35) = some ir35 := by kernel_rfl
theorem bi35 (K : PySem.W.Frag) (fd : FuncData) (F : FunD K d35.name d35.qual d35.params d35.body d35.scope (F35.dfl.map (L3.vx tl.pd.T K fun _ => 0)) [] (He.fAd K F35.at_) fd) (j : Nat) (h : j ≤ F35.dfl.length) : ∃ ds, Vals ((F35.dfl.drop j).map (L3.vx tl.pd.T K fun _ => 0)) ds ∧ Binds K fd F35.ps ds := by
  have e : j = 0 := Nat.le_zero.mp h
  subst e
  exact ⟨[], .nil, FunD.bindsN F fun _ _ _ _ _ _ us hl => match us, hl with | [_], _ => rfl⟩
def ir36 : L3.ISs := (L3.ISs.cons   (L3.IS.ret     (L3.IE.and       (L3.IE.prim (L3.P.isi [L3.Ty.own 2]) (L3.IEs.cons (L3.IE.var 1) (L3.IEs.nil)))       (L3.IE.prim         (L3.P.eq)         (L3.IEs.cons           (L3.IE.meth 0 (L3.IE.var 1) (L3.IEs.nil))           (L3.IEs.cons (L3.IE.prim (L3.P.fld 0) (L3.IEs.cons (L3.IE.var 0) (L3.IEs.nil))) (L3.IEs.nil))))))   (L3.ISs.nil))
def d36 : L3.FD := ⟨F36, "same", "Hind.same", L2.defArgs s36, L2.defBody s36, L2.defScope s36, N36, ir36⟩
theorem sc36 : FnScope N36 F36.ps (L2.defScope s36) := ⟨rfl, rfl, rfl, by decide +kernel, by decide +kernel, by decide +kernel, by decide +kernel⟩
theorem tr36 : L3.cFn tl.pd nm N36 (L2.defScope s36) (L2.defBody s36) = some ir36 := by kernel_rfl
theorem bi36 (K : PySem.W.Frag) (fd : FuncData) (F : FunD K d36.name d36.qual d36.params d36.body d36.scope (F36.dfl.map (L3.vx tl.pd.T K fun _ => 0)) [] (He.fAd K F36.at_) fd) (j : Nat) (h : j ≤ F36.dfl.length) : ∃ ds, Vals ((F36.dfl.drop j).map (L3.vx tl.pd.T K fun _ => 0)) ds ∧ Binds K fd F36.ps ds := by
  have e : j = 0 := Nat.le_zero.mp h
  subst e
  exact ⟨[], .nil, FunD.bindsN F fun _ _ _ _ _ _ us hl => match us, hl with | [_, _], _ => rfl⟩
def ds : List L3.FD := (([d0, d1, d2, d3, d4, d5, d6, d7, d8, d9, d10, d11, d12, d13, d14, d15, d16, d17, d18, d19, d20, d21, d22, d23, d24, d25, d26, d27, d28, d29] : List L3.FD) ++ ([d30, d31, d32, d33, d34, d35, d36] : List L3.FD))
theorem ok : ∀ d ∈ ds, L3.FDok tl nm d := by
  intro d hd
  simp only [ds, List.mem_cons, List.mem_append, List.not_mem_nil, or_false] at hd
  rcases hd with ((rfl | rfl | rfl | rfl | rfl | rfl | rfl | rfl | rfl | rfl | rfl | rfl | rfl | rfl | rfl | rfl | rfl | rfl | rfl | rfl | rfl | rfl | rfl | rfl | rfl | rfl | rfl | rfl | rfl | rfl) | (rfl | rfl | rfl | rfl | rfl | rfl | rfl))
  · exact ⟨sc0, tr0, bi0⟩
  · exact ⟨sc1, tr1, bi1⟩
  · exact ⟨sc2, tr2, bi2⟩
  · exact ⟨sc3, tr3, bi3⟩
  · exact ⟨sc4, tr4, bi4⟩
  · exact ⟨sc5, tr5, bi5⟩
  · exact ⟨sc6, tr6, bi6⟩
  · exact ⟨sc7, tr7, bi7⟩
  · exact ⟨sc8, tr8, bi8⟩
  · exact ⟨sc9, tr9, bi9⟩
  · exact ⟨sc10, tr10, bi10⟩
  · exact ⟨sc11, tr11, bi11⟩
  · exact ⟨sc12, tr12, bi12⟩
  · exact ⟨sc13, tr13, bi13⟩
  · exact ⟨sc14, tr14, bi14⟩
  · exact ⟨sc15, tr15, bi15⟩
  · exact ⟨sc16, tr16, bi16⟩
  · exact ⟨sc17, tr17, bi17⟩
  · exact ⟨sc18, tr18, bi18⟩
  · exact ⟨sc19, tr19, bi19⟩
  · exact ⟨sc20, tr20, bi20⟩
  · exact ⟨sc21, tr21, bi21⟩
  · exact ⟨sc22, tr22, bi22⟩
  · exact ⟨sc23, tr23, bi23⟩
  · exact ⟨sc24, tr24, bi24⟩
  · exact ⟨sc25, tr25, bi25⟩
  · exact ⟨sc26, tr26, bi26⟩
  · exact ⟨sc27, tr27, bi27⟩
  · exact ⟨sc28, tr28, bi28⟩
  · exact ⟨sc29, tr29, bi29⟩
  · exact ⟨sc30, tr30, bi30⟩
  · exact ⟨sc31, tr31, bi31⟩
  · exact ⟨sc32, tr32, bi32⟩
  · exact ⟨sc33, tr33, bi33⟩
  · exact ⟨sc34, tr34, bi34⟩
  · exact ⟨sc35, tr35, bi35⟩
  · exact ⟨sc36, tr36, bi36⟩
theorem tlok : tl.ok = true := by decide +kernel
abbrev R : PySem.W.OpenRow := PySem.W.OpenLaw.row PySem.Challenge.rw_twocabins_k25_whole_rung_again_heard_twi
abbrev hk : PySem.W.Hook := L3.hookX 5 tl (ds.map L3.FD.def_)
def names : List PySem.Str := (["CabinError", "NoWord", "Barred", "WORDS", "bell_words", "fore_words", "hind_words", "need_word", "End", "Fore", "Hind", "_law_cell", "_law_box", "_law_take", "_law_words", "_law_moved", "_law_moves", "_law_seen", "_law_idle", "_law_case"] : List PySem.Str)
def ob (s : PySem.W.SharedT) : He.AlD := L3.obsXG 5 tl (ds.map L3.FD.def_) (HandSHeadRun.getT s)
theorem ob_eq (s : PySem.W.SharedT) : ob s = hk.obs s.abs := L3.obsXG_eq (HandSHeadRun.getT_eq s)
def lawAt : Nat := 24
def lawFn : Nat := 13
theorem run (w : World) : HandSHeadRun.RunEq R (PySem.W.view R.prog [24]) hk ob 3000 names w := by
  intro os
  kernel_rfl
end Tb


set_option Elab.async false
set_option maxRecDepth 100000
set_option maxHeartbeats 0
set_option linter.all false
namespace Tb
open L3 PySem PyProof.Rows
def WL : List (Nat × L3.S) := ([[114, 101, 115, 116], [111, 102, 102, 101, 114, 101, 100], [116, 97, 107, 101, 110], [111, 110], [98, 97, 99, 107]] : List L3.S).map (fun w => (1, w)) ++ ([[114, 101, 115, 116], [97, 115, 107, 101, 100], [103, 105, 118, 101, 110], [112, 97, 115, 115, 101, 100], [116, 111, 108, 100], [99, 108, 101, 97, 114], [99, 108, 111, 115, 101, 100]] : List L3.S).map (fun w => (2, w))
def Fs : List Fn := ds.map FD.fn
def sp1 (n f : Nat) : Option (Spc (Option Nat)) := bif Nat.beq f 6 then some takeN else bif Nat.beq f 11 && Nat.beq n 8 then some (sameN' WL 3) else bif Nat.beq f 12 && Nat.beq n 9 then some (fun _ _ _ _ => none) else none
def sp2 (n f : Nat) : Option (Spc Prop) := bif Nat.beq f 6 then some takeP else bif Nat.beq f 11 && Nat.beq n 8 then some (sameP WL 3) else bif Nat.beq f 12 && Nat.beq n 9 then some (caseP 120) else none
theorem spr (X : Nat) : SpRel X sp1 sp2 := fun n f => by
  unfold sp1 sp2
  cases Nat.beq f 6 with
  | true => exact .inr ⟨_, _, rfl, rfl, take_rel⟩
  | false =>
    cases (Nat.beq f 11 && Nat.beq n 8) with
    | true => exact .inr ⟨_, _, rfl, rfl, same_rel⟩
    | false =>
      cases (Nat.beq f 12 && Nat.beq n 9) with
      | true => exact .inr ⟨_, _, rfl, rfl, fun vs h k x k' x' d _ _ q => by cases q⟩
      | false => exact .inl ⟨rfl, rfl⟩
def D1 (n : Nat) : Hd (Option Nat) := callN tl.pd.T Fs sp1 gcT n
theorem rel (n X : Nat) : HRel X (D1 n) (callN tl.pd.T Fs sp2 gcT n) := callN_rel (spr X) (gcT_rel X) n
def lp : List Nat × Nat × II × ISs := (loopOf ir12).getD ([], 0, .rng1 .bad, .nil)
def st0 : L3.St × LH := ([some (L3.LV.ref 0), some (L3.LV.int 0), some (L3.LV.str [114, 101, 115, 116]), some (L3.LV.ref 5), some (L3.LV.ref 7), none, none, none, none, none, none], { n := 9, os := [L3.LO.lst [L3.LV.str [114, 101, 115, 116], L3.LV.str [111, 102, 102, 101, 114, 101, 100], L3.LV.str [116, 97, 107, 101, 110], L3.LV.str [111, 110], L3.LV.str [98, 97, 99, 107]], L3.LO.ins 1 [(0, L3.LV.str [114, 101, 115, 116])], L3.LO.lst [L3.LV.str [114, 101, 115, 116], L3.LV.str [111, 102, 102, 101, 114, 101, 100], L3.LV.str [116, 97, 107, 101, 110], L3.LV.str [111, 110], L3.LV.str [98, 97, 99, 107]], L3.LO.ins 1 [(0, L3.LV.str [114, 101, 115, 116])], L3.LO.lst [L3.LV.int 5, L3.LV.int 7], L3.LO.lst [L3.LV.ref 1, L3.LV.ref 2], L3.LO.lst [L3.LV.str [114, 101, 115, 116], L3.LV.str [97, 115, 107, 101, 100], L3.LV.str [103, 105, 118, 101, 110], L3.LV.str [112, 97, 115, 115, 101, 100], L3.LV.str [116, 111, 108, 100], L3.LV.str [99, 108, 101, 97, 114], L3.LV.str [99, 108, 111, 115, 101, 100]], L3.LO.lst [L3.LV.str [114, 101, 115, 116], L3.LV.str [111, 102, 102, 101, 114, 101, 100], L3.LV.str [116, 97, 107, 101, 110], L3.LV.str [111, 110], L3.LV.str [98, 97, 99, 107]], L3.LO.box 3], c := 0 })
def st1 : L3.St × LH := ([some (L3.LV.ref 0), some (L3.LV.int 0), some (L3.LV.str [111, 102, 102, 101, 114, 101, 100]), some (L3.LV.ref 5), some (L3.LV.ref 7), none, none, none, none, none, none], { n := 9, os := [L3.LO.lst [L3.LV.str [114, 101, 115, 116], L3.LV.str [111, 102, 102, 101, 114, 101, 100], L3.LV.str [116, 97, 107, 101, 110], L3.LV.str [111, 110], L3.LV.str [98, 97, 99, 107]], L3.LO.ins 1 [(0, L3.LV.str [111, 102, 102, 101, 114, 101, 100])], L3.LO.lst [L3.LV.str [114, 101, 115, 116], L3.LV.str [111, 102, 102, 101, 114, 101, 100], L3.LV.str [116, 97, 107, 101, 110], L3.LV.str [111, 110], L3.LV.str [98, 97, 99, 107]], L3.LO.ins 1 [(0, L3.LV.str [111, 102, 102, 101, 114, 101, 100])], L3.LO.lst [L3.LV.int 5, L3.LV.int 7], L3.LO.lst [L3.LV.ref 1, L3.LV.ref 2], L3.LO.lst [L3.LV.str [114, 101, 115, 116], L3.LV.str [97, 115, 107, 101, 100], L3.LV.str [103, 105, 118, 101, 110], L3.LV.str [112, 97, 115, 115, 101, 100], L3.LV.str [116, 111, 108, 100], L3.LV.str [99, 108, 101, 97, 114], L3.LV.str [99, 108, 111, 115, 101, 100]], L3.LO.lst [L3.LV.str [114, 101, 115, 116], L3.LV.str [111, 102, 102, 101, 114, 101, 100], L3.LV.str [116, 97, 107, 101, 110], L3.LV.str [111, 110], L3.LV.str [98, 97, 99, 107]], L3.LO.box 3], c := 0 })
def st2 : L3.St × LH := ([some (L3.LV.ref 0), some (L3.LV.int 0), some (L3.LV.str [116, 97, 107, 101, 110]), some (L3.LV.ref 5), some (L3.LV.ref 7), none, none, none, none, none, none], { n := 9, os := [L3.LO.lst [L3.LV.str [114, 101, 115, 116], L3.LV.str [111, 102, 102, 101, 114, 101, 100], L3.LV.str [116, 97, 107, 101, 110], L3.LV.str [111, 110], L3.LV.str [98, 97, 99, 107]], L3.LO.ins 1 [(0, L3.LV.str [116, 97, 107, 101, 110])], L3.LO.lst [L3.LV.str [114, 101, 115, 116], L3.LV.str [111, 102, 102, 101, 114, 101, 100], L3.LV.str [116, 97, 107, 101, 110], L3.LV.str [111, 110], L3.LV.str [98, 97, 99, 107]], L3.LO.ins 1 [(0, L3.LV.str [116, 97, 107, 101, 110])], L3.LO.lst [L3.LV.int 5, L3.LV.int 7], L3.LO.lst [L3.LV.ref 1, L3.LV.ref 2], L3.LO.lst [L3.LV.str [114, 101, 115, 116], L3.LV.str [97, 115, 107, 101, 100], L3.LV.str [103, 105, 118, 101, 110], L3.LV.str [112, 97, 115, 115, 101, 100], L3.LV.str [116, 111, 108, 100], L3.LV.str [99, 108, 101, 97, 114], L3.LV.str [99, 108, 111, 115, 101, 100]], L3.LO.lst [L3.LV.str [114, 101, 115, 116], L3.LV.str [111, 102, 102, 101, 114, 101, 100], L3.LV.str [116, 97, 107, 101, 110], L3.LV.str [111, 110], L3.LV.str [98, 97, 99, 107]], L3.LO.box 3], c := 0 })
def st3 : L3.St × LH := ([some (L3.LV.ref 0), some (L3.LV.int 0), some (L3.LV.str [111, 110]), some (L3.LV.ref 5), some (L3.LV.ref 7), none, none, none, none, none, none], { n := 9, os := [L3.LO.lst [L3.LV.str [114, 101, 115, 116], L3.LV.str [111, 102, 102, 101, 114, 101, 100], L3.LV.str [116, 97, 107, 101, 110], L3.LV.str [111, 110], L3.LV.str [98, 97, 99, 107]], L3.LO.ins 1 [(0, L3.LV.str [111, 110])], L3.LO.lst [L3.LV.str [114, 101, 115, 116], L3.LV.str [111, 102, 102, 101, 114, 101, 100], L3.LV.str [116, 97, 107, 101, 110], L3.LV.str [111, 110], L3.LV.str [98, 97, 99, 107]], L3.LO.ins 1 [(0, L3.LV.str [111, 110])], L3.LO.lst [L3.LV.int 5, L3.LV.int 7], L3.LO.lst [L3.LV.ref 1, L3.LV.ref 2], L3.LO.lst [L3.LV.str [114, 101, 115, 116], L3.LV.str [97, 115, 107, 101, 100], L3.LV.str [103, 105, 118, 101, 110], L3.LV.str [112, 97, 115, 115, 101, 100], L3.LV.str [116, 111, 108, 100], L3.LV.str [99, 108, 101, 97, 114], L3.LV.str [99, 108, 111, 115, 101, 100]], L3.LO.lst [L3.LV.str [114, 101, 115, 116], L3.LV.str [111, 102, 102, 101, 114, 101, 100], L3.LV.str [116, 97, 107, 101, 110], L3.LV.str [111, 110], L3.LV.str [98, 97, 99, 107]], L3.LO.box 3], c := 0 })
def st4 : L3.St × LH := ([some (L3.LV.ref 0), some (L3.LV.int 0), some (L3.LV.str [98, 97, 99, 107]), some (L3.LV.ref 5), some (L3.LV.ref 7), none, none, none, none, none, none], { n := 9, os := [L3.LO.lst [L3.LV.str [114, 101, 115, 116], L3.LV.str [111, 102, 102, 101, 114, 101, 100], L3.LV.str [116, 97, 107, 101, 110], L3.LV.str [111, 110], L3.LV.str [98, 97, 99, 107]], L3.LO.ins 1 [(0, L3.LV.str [98, 97, 99, 107])], L3.LO.lst [L3.LV.str [114, 101, 115, 116], L3.LV.str [111, 102, 102, 101, 114, 101, 100], L3.LV.str [116, 97, 107, 101, 110], L3.LV.str [111, 110], L3.LV.str [98, 97, 99, 107]], L3.LO.ins 1 [(0, L3.LV.str [98, 97, 99, 107])], L3.LO.lst [L3.LV.int 5, L3.LV.int 7], L3.LO.lst [L3.LV.ref 1, L3.LV.ref 2], L3.LO.lst [L3.LV.str [114, 101, 115, 116], L3.LV.str [97, 115, 107, 101, 100], L3.LV.str [103, 105, 118, 101, 110], L3.LV.str [112, 97, 115, 115, 101, 100], L3.LV.str [116, 111, 108, 100], L3.LV.str [99, 108, 101, 97, 114], L3.LV.str [99, 108, 111, 115, 101, 100]], L3.LO.lst [L3.LV.str [114, 101, 115, 116], L3.LV.str [111, 102, 102, 101, 114, 101, 100], L3.LV.str [116, 97, 107, 101, 110], L3.LV.str [111, 110], L3.LV.str [98, 97, 99, 107]], L3.LO.box 3], c := 0 })
def st5 : L3.St × LH := ([some (L3.LV.ref 0), some (L3.LV.int 1), some (L3.LV.str [114, 101, 115, 116]), some (L3.LV.ref 5), some (L3.LV.ref 7), none, none, none, none, none, none], { n := 9, os := [L3.LO.lst [L3.LV.str [114, 101, 115, 116], L3.LV.str [97, 115, 107, 101, 100], L3.LV.str [103, 105, 118, 101, 110], L3.LV.str [112, 97, 115, 115, 101, 100], L3.LV.str [116, 111, 108, 100], L3.LV.str [99, 108, 101, 97, 114], L3.LV.str [99, 108, 111, 115, 101, 100]], L3.LO.ins 2 [(0, L3.LV.str [114, 101, 115, 116])], L3.LO.lst [L3.LV.str [114, 101, 115, 116], L3.LV.str [97, 115, 107, 101, 100], L3.LV.str [103, 105, 118, 101, 110], L3.LV.str [112, 97, 115, 115, 101, 100], L3.LV.str [116, 111, 108, 100], L3.LV.str [99, 108, 101, 97, 114], L3.LV.str [99, 108, 111, 115, 101, 100]], L3.LO.ins 2 [(0, L3.LV.str [114, 101, 115, 116])], L3.LO.lst [L3.LV.int 5, L3.LV.int 7], L3.LO.lst [L3.LV.ref 1, L3.LV.ref 2], L3.LO.lst [L3.LV.str [114, 101, 115, 116], L3.LV.str [97, 115, 107, 101, 100], L3.LV.str [103, 105, 118, 101, 110], L3.LV.str [112, 97, 115, 115, 101, 100], L3.LV.str [116, 111, 108, 100], L3.LV.str [99, 108, 101, 97, 114], L3.LV.str [99, 108, 111, 115, 101, 100]], L3.LO.lst [L3.LV.str [114, 101, 115, 116], L3.LV.str [111, 102, 102, 101, 114, 101, 100], L3.LV.str [116, 97, 107, 101, 110], L3.LV.str [111, 110], L3.LV.str [98, 97, 99, 107]], L3.LO.box 3], c := 0 })
def st6 : L3.St × LH := ([some (L3.LV.ref 0), some (L3.LV.int 1), some (L3.LV.str [97, 115, 107, 101, 100]), some (L3.LV.ref 5), some (L3.LV.ref 7), none, none, none, none, none, none], { n := 9, os := [L3.LO.lst [L3.LV.str [114, 101, 115, 116], L3.LV.str [97, 115, 107, 101, 100], L3.LV.str [103, 105, 118, 101, 110], L3.LV.str [112, 97, 115, 115, 101, 100], L3.LV.str [116, 111, 108, 100], L3.LV.str [99, 108, 101, 97, 114], L3.LV.str [99, 108, 111, 115, 101, 100]], L3.LO.ins 2 [(0, L3.LV.str [97, 115, 107, 101, 100])], L3.LO.lst [L3.LV.str [114, 101, 115, 116], L3.LV.str [97, 115, 107, 101, 100], L3.LV.str [103, 105, 118, 101, 110], L3.LV.str [112, 97, 115, 115, 101, 100], L3.LV.str [116, 111, 108, 100], L3.LV.str [99, 108, 101, 97, 114], L3.LV.str [99, 108, 111, 115, 101, 100]], L3.LO.ins 2 [(0, L3.LV.str [97, 115, 107, 101, 100])], L3.LO.lst [L3.LV.int 5, L3.LV.int 7], L3.LO.lst [L3.LV.ref 1, L3.LV.ref 2], L3.LO.lst [L3.LV.str [114, 101, 115, 116], L3.LV.str [97, 115, 107, 101, 100], L3.LV.str [103, 105, 118, 101, 110], L3.LV.str [112, 97, 115, 115, 101, 100], L3.LV.str [116, 111, 108, 100], L3.LV.str [99, 108, 101, 97, 114], L3.LV.str [99, 108, 111, 115, 101, 100]], L3.LO.lst [L3.LV.str [114, 101, 115, 116], L3.LV.str [111, 102, 102, 101, 114, 101, 100], L3.LV.str [116, 97, 107, 101, 110], L3.LV.str [111, 110], L3.LV.str [98, 97, 99, 107]], L3.LO.box 3], c := 0 })
def st7 : L3.St × LH := ([some (L3.LV.ref 0), some (L3.LV.int 1), some (L3.LV.str [103, 105, 118, 101, 110]), some (L3.LV.ref 5), some (L3.LV.ref 7), none, none, none, none, none, none], { n := 9, os := [L3.LO.lst [L3.LV.str [114, 101, 115, 116], L3.LV.str [97, 115, 107, 101, 100], L3.LV.str [103, 105, 118, 101, 110], L3.LV.str [112, 97, 115, 115, 101, 100], L3.LV.str [116, 111, 108, 100], L3.LV.str [99, 108, 101, 97, 114], L3.LV.str [99, 108, 111, 115, 101, 100]], L3.LO.ins 2 [(0, L3.LV.str [103, 105, 118, 101, 110])], L3.LO.lst [L3.LV.str [114, 101, 115, 116], L3.LV.str [97, 115, 107, 101, 100], L3.LV.str [103, 105, 118, 101, 110], L3.LV.str [112, 97, 115, 115, 101, 100], L3.LV.str [116, 111, 108, 100], L3.LV.str [99, 108, 101, 97, 114], L3.LV.str [99, 108, 111, 115, 101, 100]], L3.LO.ins 2 [(0, L3.LV.str [103, 105, 118, 101, 110])], L3.LO.lst [L3.LV.int 5, L3.LV.int 7], L3.LO.lst [L3.LV.ref 1, L3.LV.ref 2], L3.LO.lst [L3.LV.str [114, 101, 115, 116], L3.LV.str [97, 115, 107, 101, 100], L3.LV.str [103, 105, 118, 101, 110], L3.LV.str [112, 97, 115, 115, 101, 100], L3.LV.str [116, 111, 108, 100], L3.LV.str [99, 108, 101, 97, 114], L3.LV.str [99, 108, 111, 115, 101, 100]], L3.LO.lst [L3.LV.str [114, 101, 115, 116], L3.LV.str [111, 102, 102, 101, 114, 101, 100], L3.LV.str [116, 97, 107, 101, 110], L3.LV.str [111, 110], L3.LV.str [98, 97, 99, 107]], L3.LO.box 3], c := 0 })
def st8 : L3.St × LH := ([some (L3.LV.ref 0), some (L3.LV.int 1), some (L3.LV.str [112, 97, 115, 115, 101, 100]), some (L3.LV.ref 5), some (L3.LV.ref 7), none, none, none, none, none, none], { n := 9, os := [L3.LO.lst [L3.LV.str [114, 101, 115, 116], L3.LV.str [97, 115, 107, 101, 100], L3.LV.str [103, 105, 118, 101, 110], L3.LV.str [112, 97, 115, 115, 101, 100], L3.LV.str [116, 111, 108, 100], L3.LV.str [99, 108, 101, 97, 114], L3.LV.str [99, 108, 111, 115, 101, 100]], L3.LO.ins 2 [(0, L3.LV.str [112, 97, 115, 115, 101, 100])], L3.LO.lst [L3.LV.str [114, 101, 115, 116], L3.LV.str [97, 115, 107, 101, 100], L3.LV.str [103, 105, 118, 101, 110], L3.LV.str [112, 97, 115, 115, 101, 100], L3.LV.str [116, 111, 108, 100], L3.LV.str [99, 108, 101, 97, 114], L3.LV.str [99, 108, 111, 115, 101, 100]], L3.LO.ins 2 [(0, L3.LV.str [112, 97, 115, 115, 101, 100])], L3.LO.lst [L3.LV.int 5, L3.LV.int 7], L3.LO.lst [L3.LV.ref 1, L3.LV.ref 2], L3.LO.lst [L3.LV.str [114, 101, 115, 116], L3.LV.str [97, 115, 107, 101, 100], L3.LV.str [103, 105, 118, 101, 110], L3.LV.str [112, 97, 115, 115, 101, 100], L3.LV.str [116, 111, 108, 100], L3.LV.str [99, 108, 101, 97, 114], L3.LV.str [99, 108, 111, 115, 101, 100]], L3.LO.lst [L3.LV.str [114, 101, 115, 116], L3.LV.str [111, 102, 102, 101, 114, 101, 100], L3.LV.str [116, 97, 107, 101, 110], L3.LV.str [111, 110], L3.LV.str [98, 97, 99, 107]], L3.LO.box 3], c := 0 })
def st9 : L3.St × LH := ([some (L3.LV.ref 0), some (L3.LV.int 1), some (L3.LV.str [116, 111, 108, 100]), some (L3.LV.ref 5), some (L3.LV.ref 7), none, none, none, none, none, none], { n := 9, os := [L3.LO.lst [L3.LV.str [114, 101, 115, 116], L3.LV.str [97, 115, 107, 101, 100], L3.LV.str [103, 105, 118, 101, 110], L3.LV.str [112, 97, 115, 115, 101, 100], L3.LV.str [116, 111, 108, 100], L3.LV.str [99, 108, 101, 97, 114], L3.LV.str [99, 108, 111, 115, 101, 100]], L3.LO.ins 2 [(0, L3.LV.str [116, 111, 108, 100])], L3.LO.lst [L3.LV.str [114, 101, 115, 116], L3.LV.str [97, 115, 107, 101, 100], L3.LV.str [103, 105, 118, 101, 110], L3.LV.str [112, 97, 115, 115, 101, 100], L3.LV.str [116, 111, 108, 100], L3.LV.str [99, 108, 101, 97, 114], L3.LV.str [99, 108, 111, 115, 101, 100]], L3.LO.ins 2 [(0, L3.LV.str [116, 111, 108, 100])], L3.LO.lst [L3.LV.int 5, L3.LV.int 7], L3.LO.lst [L3.LV.ref 1, L3.LV.ref 2], L3.LO.lst [L3.LV.str [114, 101, 115, 116], L3.LV.str [97, 115, 107, 101, 100], L3.LV.str [103, 105, 118, 101, 110], L3.LV.str [112, 97, 115, 115, 101, 100], L3.LV.str [116, 111, 108, 100], L3.LV.str [99, 108, 101, 97, 114], L3.LV.str [99, 108, 111, 115, 101, 100]], L3.LO.lst [L3.LV.str [114, 101, 115, 116], L3.LV.str [111, 102, 102, 101, 114, 101, 100], L3.LV.str [116, 97, 107, 101, 110], L3.LV.str [111, 110], L3.LV.str [98, 97, 99, 107]], L3.LO.box 3], c := 0 })
def st10 : L3.St × LH := ([some (L3.LV.ref 0), some (L3.LV.int 1), some (L3.LV.str [99, 108, 101, 97, 114]), some (L3.LV.ref 5), some (L3.LV.ref 7), none, none, none, none, none, none], { n := 9, os := [L3.LO.lst [L3.LV.str [114, 101, 115, 116], L3.LV.str [97, 115, 107, 101, 100], L3.LV.str [103, 105, 118, 101, 110], L3.LV.str [112, 97, 115, 115, 101, 100], L3.LV.str [116, 111, 108, 100], L3.LV.str [99, 108, 101, 97, 114], L3.LV.str [99, 108, 111, 115, 101, 100]], L3.LO.ins 2 [(0, L3.LV.str [99, 108, 101, 97, 114])], L3.LO.lst [L3.LV.str [114, 101, 115, 116], L3.LV.str [97, 115, 107, 101, 100], L3.LV.str [103, 105, 118, 101, 110], L3.LV.str [112, 97, 115, 115, 101, 100], L3.LV.str [116, 111, 108, 100], L3.LV.str [99, 108, 101, 97, 114], L3.LV.str [99, 108, 111, 115, 101, 100]], L3.LO.ins 2 [(0, L3.LV.str [99, 108, 101, 97, 114])], L3.LO.lst [L3.LV.int 5, L3.LV.int 7], L3.LO.lst [L3.LV.ref 1, L3.LV.ref 2], L3.LO.lst [L3.LV.str [114, 101, 115, 116], L3.LV.str [97, 115, 107, 101, 100], L3.LV.str [103, 105, 118, 101, 110], L3.LV.str [112, 97, 115, 115, 101, 100], L3.LV.str [116, 111, 108, 100], L3.LV.str [99, 108, 101, 97, 114], L3.LV.str [99, 108, 111, 115, 101, 100]], L3.LO.lst [L3.LV.str [114, 101, 115, 116], L3.LV.str [111, 102, 102, 101, 114, 101, 100], L3.LV.str [116, 97, 107, 101, 110], L3.LV.str [111, 110], L3.LV.str [98, 97, 99, 107]], L3.LO.box 3], c := 0 })
def st11 : L3.St × LH := ([some (L3.LV.ref 0), some (L3.LV.int 1), some (L3.LV.str [99, 108, 111, 115, 101, 100]), some (L3.LV.ref 5), some (L3.LV.ref 7), none, none, none, none, none, none], { n := 9, os := [L3.LO.lst [L3.LV.str [114, 101, 115, 116], L3.LV.str [97, 115, 107, 101, 100], L3.LV.str [103, 105, 118, 101, 110], L3.LV.str [112, 97, 115, 115, 101, 100], L3.LV.str [116, 111, 108, 100], L3.LV.str [99, 108, 101, 97, 114], L3.LV.str [99, 108, 111, 115, 101, 100]], L3.LO.ins 2 [(0, L3.LV.str [99, 108, 111, 115, 101, 100])], L3.LO.lst [L3.LV.str [114, 101, 115, 116], L3.LV.str [97, 115, 107, 101, 100], L3.LV.str [103, 105, 118, 101, 110], L3.LV.str [112, 97, 115, 115, 101, 100], L3.LV.str [116, 111, 108, 100], L3.LV.str [99, 108, 101, 97, 114], L3.LV.str [99, 108, 111, 115, 101, 100]], L3.LO.ins 2 [(0, L3.LV.str [99, 108, 111, 115, 101, 100])], L3.LO.lst [L3.LV.int 5, L3.LV.int 7], L3.LO.lst [L3.LV.ref 1, L3.LV.ref 2], L3.LO.lst [L3.LV.str [114, 101, 115, 116], L3.LV.str [97, 115, 107, 101, 100], L3.LV.str [103, 105, 118, 101, 110], L3.LV.str [112, 97, 115, 115, 101, 100], L3.LV.str [116, 111, 108, 100], L3.LV.str [99, 108, 101, 97, 114], L3.LV.str [99, 108, 111, 115, 101, 100]], L3.LO.lst [L3.LV.str [114, 101, 115, 116], L3.LV.str [111, 102, 102, 101, 114, 101, 100], L3.LV.str [116, 97, 107, 101, 110], L3.LV.str [111, 110], L3.LV.str [98, 97, 99, 107]], L3.LO.box 3], c := 0 })
def st12 : L3.St × LH := ([some (L3.LV.ref 0), some (L3.LV.int 0), none, some (L3.LV.ref 5), some (L3.LV.ref 7), none, none, none, none, none, none], { n := 9, os := [L3.LO.lst [L3.LV.str [114, 101, 115, 116], L3.LV.str [111, 102, 102, 101, 114, 101, 100], L3.LV.str [116, 97, 107, 101, 110], L3.LV.str [111, 110], L3.LV.str [98, 97, 99, 107]], L3.LO.ins 1 [(0, L3.LV.str [111, 102, 102, 101, 114, 101, 100])], L3.LO.lst [L3.LV.str [114, 101, 115, 116], L3.LV.str [111, 102, 102, 101, 114, 101, 100], L3.LV.str [116, 97, 107, 101, 110], L3.LV.str [111, 110], L3.LV.str [98, 97, 99, 107]], L3.LO.ins 1 [(0, L3.LV.str [111, 102, 102, 101, 114, 101, 100])], L3.LO.lst [L3.LV.int 5, L3.LV.int 7], L3.LO.lst [L3.LV.ref 1, L3.LV.ref 2], L3.LO.lst [L3.LV.str [114, 101, 115, 116], L3.LV.str [97, 115, 107, 101, 100], L3.LV.str [103, 105, 118, 101, 110], L3.LV.str [112, 97, 115, 115, 101, 100], L3.LV.str [116, 111, 108, 100], L3.LV.str [99, 108, 101, 97, 114], L3.LV.str [99, 108, 111, 115, 101, 100]], L3.LO.lst [L3.LV.str [114, 101, 115, 116], L3.LV.str [111, 102, 102, 101, 114, 101, 100], L3.LV.str [116, 97, 107, 101, 110], L3.LV.str [111, 110], L3.LV.str [98, 97, 99, 107]], L3.LO.box 3], c := 0 })
def st13 : L3.St × LH := ([some (L3.LV.ref 0), some (L3.LV.int 0), none, some (L3.LV.ref 5), some (L3.LV.ref 7), none, none, none, none, none, none], { n := 9, os := [L3.LO.lst [L3.LV.str [114, 101, 115, 116], L3.LV.str [111, 102, 102, 101, 114, 101, 100], L3.LV.str [116, 97, 107, 101, 110], L3.LV.str [111, 110], L3.LV.str [98, 97, 99, 107]], L3.LO.ins 1 [(0, L3.LV.str [114, 101, 115, 116])], L3.LO.lst [L3.LV.str [114, 101, 115, 116], L3.LV.str [111, 102, 102, 101, 114, 101, 100], L3.LV.str [116, 97, 107, 101, 110], L3.LV.str [111, 110], L3.LV.str [98, 97, 99, 107]], L3.LO.ins 1 [(0, L3.LV.str [114, 101, 115, 116])], L3.LO.lst [L3.LV.int 5, L3.LV.int 7], L3.LO.lst [L3.LV.ref 1, L3.LV.ref 2], L3.LO.lst [L3.LV.str [114, 101, 115, 116], L3.LV.str [97, 115, 107, 101, 100], L3.LV.str [103, 105, 118, 101, 110], L3.LV.str [112, 97, 115, 115, 101, 100], L3.LV.str [116, 111, 108, 100], L3.LV.str [99, 108, 101, 97, 114], L3.LV.str [99, 108, 111, 115, 101, 100]], L3.LO.lst [L3.LV.str [114, 101, 115, 116], L3.LV.str [111, 102, 102, 101, 114, 101, 100], L3.LV.str [116, 97, 107, 101, 110], L3.LV.str [111, 110], L3.LV.str [98, 97, 99, 107]], L3.LO.box 3], c := 0 })
def st14 : L3.St × LH := ([some (L3.LV.ref 0), some (L3.LV.int 0), none, some (L3.LV.ref 5), some (L3.LV.ref 7), none, none, none, none, none, none], { n := 9, os := [L3.LO.lst [L3.LV.str [114, 101, 115, 116], L3.LV.str [111, 102, 102, 101, 114, 101, 100], L3.LV.str [116, 97, 107, 101, 110], L3.LV.str [111, 110], L3.LV.str [98, 97, 99, 107]], L3.LO.ins 1 [(0, L3.LV.str [116, 97, 107, 101, 110])], L3.LO.lst [L3.LV.str [114, 101, 115, 116], L3.LV.str [111, 102, 102, 101, 114, 101, 100], L3.LV.str [116, 97, 107, 101, 110], L3.LV.str [111, 110], L3.LV.str [98, 97, 99, 107]], L3.LO.ins 1 [(0, L3.LV.str [116, 97, 107, 101, 110])], L3.LO.lst [L3.LV.int 5, L3.LV.int 7], L3.LO.lst [L3.LV.ref 1, L3.LV.ref 2], L3.LO.lst [L3.LV.str [114, 101, 115, 116], L3.LV.str [97, 115, 107, 101, 100], L3.LV.str [103, 105, 118, 101, 110], L3.LV.str [112, 97, 115, 115, 101, 100], L3.LV.str [116, 111, 108, 100], L3.LV.str [99, 108, 101, 97, 114], L3.LV.str [99, 108, 111, 115, 101, 100]], L3.LO.lst [L3.LV.str [114, 101, 115, 116], L3.LV.str [111, 102, 102, 101, 114, 101, 100], L3.LV.str [116, 97, 107, 101, 110], L3.LV.str [111, 110], L3.LV.str [98, 97, 99, 107]], L3.LO.box 3], c := 0 })
def st15 : L3.St × LH := ([some (L3.LV.ref 0), some (L3.LV.int 0), none, some (L3.LV.ref 5), some (L3.LV.ref 7), none, none, none, none, none, none], { n := 9, os := [L3.LO.lst [L3.LV.str [114, 101, 115, 116], L3.LV.str [111, 102, 102, 101, 114, 101, 100], L3.LV.str [116, 97, 107, 101, 110], L3.LV.str [111, 110], L3.LV.str [98, 97, 99, 107]], L3.LO.ins 1 [(0, L3.LV.str [98, 97, 99, 107])], L3.LO.lst [L3.LV.str [114, 101, 115, 116], L3.LV.str [111, 102, 102, 101, 114, 101, 100], L3.LV.str [116, 97, 107, 101, 110], L3.LV.str [111, 110], L3.LV.str [98, 97, 99, 107]], L3.LO.ins 1 [(0, L3.LV.str [98, 97, 99, 107])], L3.LO.lst [L3.LV.int 5, L3.LV.int 7], L3.LO.lst [L3.LV.ref 1, L3.LV.ref 2], L3.LO.lst [L3.LV.str [114, 101, 115, 116], L3.LV.str [97, 115, 107, 101, 100], L3.LV.str [103, 105, 118, 101, 110], L3.LV.str [112, 97, 115, 115, 101, 100], L3.LV.str [116, 111, 108, 100], L3.LV.str [99, 108, 101, 97, 114], L3.LV.str [99, 108, 111, 115, 101, 100]], L3.LO.lst [L3.LV.str [114, 101, 115, 116], L3.LV.str [111, 102, 102, 101, 114, 101, 100], L3.LV.str [116, 97, 107, 101, 110], L3.LV.str [111, 110], L3.LV.str [98, 97, 99, 107]], L3.LO.box 3], c := 0 })
def st16 : L3.St × LH := ([some (L3.LV.ref 0), some (L3.LV.int 0), none, some (L3.LV.ref 5), some (L3.LV.ref 7), none, none, none, none, none, none], { n := 9, os := [L3.LO.lst [L3.LV.str [114, 101, 115, 116], L3.LV.str [111, 102, 102, 101, 114, 101, 100], L3.LV.str [116, 97, 107, 101, 110], L3.LV.str [111, 110], L3.LV.str [98, 97, 99, 107]], L3.LO.ins 1 [(0, L3.LV.str [111, 110])], L3.LO.lst [L3.LV.str [114, 101, 115, 116], L3.LV.str [111, 102, 102, 101, 114, 101, 100], L3.LV.str [116, 97, 107, 101, 110], L3.LV.str [111, 110], L3.LV.str [98, 97, 99, 107]], L3.LO.ins 1 [(0, L3.LV.str [111, 110])], L3.LO.lst [L3.LV.int 5, L3.LV.int 7], L3.LO.lst [L3.LV.ref 1, L3.LV.ref 2], L3.LO.lst [L3.LV.str [114, 101, 115, 116], L3.LV.str [97, 115, 107, 101, 100], L3.LV.str [103, 105, 118, 101, 110], L3.LV.str [112, 97, 115, 115, 101, 100], L3.LV.str [116, 111, 108, 100], L3.LV.str [99, 108, 101, 97, 114], L3.LV.str [99, 108, 111, 115, 101, 100]], L3.LO.lst [L3.LV.str [114, 101, 115, 116], L3.LV.str [111, 102, 102, 101, 114, 101, 100], L3.LV.str [116, 97, 107, 101, 110], L3.LV.str [111, 110], L3.LV.str [98, 97, 99, 107]], L3.LO.box 3], c := 0 })
def st17 : L3.St × LH := ([some (L3.LV.ref 0), some (L3.LV.int 1), none, some (L3.LV.ref 5), some (L3.LV.ref 7), none, none, none, none, none, none], { n := 9, os := [L3.LO.lst [L3.LV.str [114, 101, 115, 116], L3.LV.str [97, 115, 107, 101, 100], L3.LV.str [103, 105, 118, 101, 110], L3.LV.str [112, 97, 115, 115, 101, 100], L3.LV.str [116, 111, 108, 100], L3.LV.str [99, 108, 101, 97, 114], L3.LV.str [99, 108, 111, 115, 101, 100]], L3.LO.ins 2 [(0, L3.LV.str [97, 115, 107, 101, 100])], L3.LO.lst [L3.LV.str [114, 101, 115, 116], L3.LV.str [97, 115, 107, 101, 100], L3.LV.str [103, 105, 118, 101, 110], L3.LV.str [112, 97, 115, 115, 101, 100], L3.LV.str [116, 111, 108, 100], L3.LV.str [99, 108, 101, 97, 114], L3.LV.str [99, 108, 111, 115, 101, 100]], L3.LO.ins 2 [(0, L3.LV.str [97, 115, 107, 101, 100])], L3.LO.lst [L3.LV.int 5, L3.LV.int 7], L3.LO.lst [L3.LV.ref 1, L3.LV.ref 2], L3.LO.lst [L3.LV.str [114, 101, 115, 116], L3.LV.str [97, 115, 107, 101, 100], L3.LV.str [103, 105, 118, 101, 110], L3.LV.str [112, 97, 115, 115, 101, 100], L3.LV.str [116, 111, 108, 100], L3.LV.str [99, 108, 101, 97, 114], L3.LV.str [99, 108, 111, 115, 101, 100]], L3.LO.lst [L3.LV.str [114, 101, 115, 116], L3.LV.str [111, 102, 102, 101, 114, 101, 100], L3.LV.str [116, 97, 107, 101, 110], L3.LV.str [111, 110], L3.LV.str [98, 97, 99, 107]], L3.LO.box 3], c := 0 })
def st18 : L3.St × LH := ([some (L3.LV.ref 0), some (L3.LV.int 1), none, some (L3.LV.ref 5), some (L3.LV.ref 7), none, none, none, none, none, none], { n := 9, os := [L3.LO.lst [L3.LV.str [114, 101, 115, 116], L3.LV.str [97, 115, 107, 101, 100], L3.LV.str [103, 105, 118, 101, 110], L3.LV.str [112, 97, 115, 115, 101, 100], L3.LV.str [116, 111, 108, 100], L3.LV.str [99, 108, 101, 97, 114], L3.LV.str [99, 108, 111, 115, 101, 100]], L3.LO.ins 2 [(0, L3.LV.str [114, 101, 115, 116])], L3.LO.lst [L3.LV.str [114, 101, 115, 116], L3.LV.str [97, 115, 107, 101, 100], L3.LV.str [103, 105, 118, 101, 110], L3.LV.str [112, 97, 115, 115, 101, 100], L3.LV.str [116, 111, 108, 100], L3.LV.str [99, 108, 101, 97, 114], L3.LV.str [99, 108, 111, 115, 101, 100]], L3.LO.ins 2 [(0, L3.LV.str [114, 101, 115, 116])], L3.LO.lst [L3.LV.int 5, L3.LV.int 7], L3.LO.lst [L3.LV.ref 1, L3.LV.ref 2], L3.LO.lst [L3.LV.str [114, 101, 115, 116], L3.LV.str [97, 115, 107, 101, 100], L3.LV.str [103, 105, 118, 101, 110], L3.LV.str [112, 97, 115, 115, 101, 100], L3.LV.str [116, 111, 108, 100], L3.LV.str [99, 108, 101, 97, 114], L3.LV.str [99, 108, 111, 115, 101, 100]], L3.LO.lst [L3.LV.str [114, 101, 115, 116], L3.LV.str [111, 102, 102, 101, 114, 101, 100], L3.LV.str [116, 97, 107, 101, 110], L3.LV.str [111, 110], L3.LV.str [98, 97, 99, 107]], L3.LO.box 3], c := 0 })
def st19 : L3.St × LH := ([some (L3.LV.ref 0), some (L3.LV.int 1), none, some (L3.LV.ref 5), some (L3.LV.ref 7), none, none, none, none, none, none], { n := 9, os := [L3.LO.lst [L3.LV.str [114, 101, 115, 116], L3.LV.str [97, 115, 107, 101, 100], L3.LV.str [103, 105, 118, 101, 110], L3.LV.str [112, 97, 115, 115, 101, 100], L3.LV.str [116, 111, 108, 100], L3.LV.str [99, 108, 101, 97, 114], L3.LV.str [99, 108, 111, 115, 101, 100]], L3.LO.ins 2 [(0, L3.LV.str [103, 105, 118, 101, 110])], L3.LO.lst [L3.LV.str [114, 101, 115, 116], L3.LV.str [97, 115, 107, 101, 100], L3.LV.str [103, 105, 118, 101, 110], L3.LV.str [112, 97, 115, 115, 101, 100], L3.LV.str [116, 111, 108, 100], L3.LV.str [99, 108, 101, 97, 114], L3.LV.str [99, 108, 111, 115, 101, 100]], L3.LO.ins 2 [(0, L3.LV.str [103, 105, 118, 101, 110])], L3.LO.lst [L3.LV.int 5, L3.LV.int 7], L3.LO.lst [L3.LV.ref 1, L3.LV.ref 2], L3.LO.lst [L3.LV.str [114, 101, 115, 116], L3.LV.str [97, 115, 107, 101, 100], L3.LV.str [103, 105, 118, 101, 110], L3.LV.str [112, 97, 115, 115, 101, 100], L3.LV.str [116, 111, 108, 100], L3.LV.str [99, 108, 101, 97, 114], L3.LV.str [99, 108, 111, 115, 101, 100]], L3.LO.lst [L3.LV.str [114, 101, 115, 116], L3.LV.str [111, 102, 102, 101, 114, 101, 100], L3.LV.str [116, 97, 107, 101, 110], L3.LV.str [111, 110], L3.LV.str [98, 97, 99, 107]], L3.LO.box 3], c := 0 })
def st20 : L3.St × LH := ([some (L3.LV.ref 0), some (L3.LV.int 1), none, some (L3.LV.ref 5), some (L3.LV.ref 7), none, none, none, none, none, none], { n := 9, os := [L3.LO.lst [L3.LV.str [114, 101, 115, 116], L3.LV.str [97, 115, 107, 101, 100], L3.LV.str [103, 105, 118, 101, 110], L3.LV.str [112, 97, 115, 115, 101, 100], L3.LV.str [116, 111, 108, 100], L3.LV.str [99, 108, 101, 97, 114], L3.LV.str [99, 108, 111, 115, 101, 100]], L3.LO.ins 2 [(0, L3.LV.str [116, 111, 108, 100])], L3.LO.lst [L3.LV.str [114, 101, 115, 116], L3.LV.str [97, 115, 107, 101, 100], L3.LV.str [103, 105, 118, 101, 110], L3.LV.str [112, 97, 115, 115, 101, 100], L3.LV.str [116, 111, 108, 100], L3.LV.str [99, 108, 101, 97, 114], L3.LV.str [99, 108, 111, 115, 101, 100]], L3.LO.ins 2 [(0, L3.LV.str [116, 111, 108, 100])], L3.LO.lst [L3.LV.int 5, L3.LV.int 7], L3.LO.lst [L3.LV.ref 1, L3.LV.ref 2], L3.LO.lst [L3.LV.str [114, 101, 115, 116], L3.LV.str [97, 115, 107, 101, 100], L3.LV.str [103, 105, 118, 101, 110], L3.LV.str [112, 97, 115, 115, 101, 100], L3.LV.str [116, 111, 108, 100], L3.LV.str [99, 108, 101, 97, 114], L3.LV.str [99, 108, 111, 115, 101, 100]], L3.LO.lst [L3.LV.str [114, 101, 115, 116], L3.LV.str [111, 102, 102, 101, 114, 101, 100], L3.LV.str [116, 97, 107, 101, 110], L3.LV.str [111, 110], L3.LV.str [98, 97, 99, 107]], L3.LO.box 3], c := 0 })
def st21 : L3.St × LH := ([some (L3.LV.ref 0), some (L3.LV.int 1), none, some (L3.LV.ref 5), some (L3.LV.ref 7), none, none, none, none, none, none], { n := 9, os := [L3.LO.lst [L3.LV.str [114, 101, 115, 116], L3.LV.str [97, 115, 107, 101, 100], L3.LV.str [103, 105, 118, 101, 110], L3.LV.str [112, 97, 115, 115, 101, 100], L3.LV.str [116, 111, 108, 100], L3.LV.str [99, 108, 101, 97, 114], L3.LV.str [99, 108, 111, 115, 101, 100]], L3.LO.ins 2 [(0, L3.LV.str [99, 108, 101, 97, 114])], L3.LO.lst [L3.LV.str [114, 101, 115, 116], L3.LV.str [97, 115, 107, 101, 100], L3.LV.str [103, 105, 118, 101, 110], L3.LV.str [112, 97, 115, 115, 101, 100], L3.LV.str [116, 111, 108, 100], L3.LV.str [99, 108, 101, 97, 114], L3.LV.str [99, 108, 111, 115, 101, 100]], L3.LO.ins 2 [(0, L3.LV.str [99, 108, 101, 97, 114])], L3.LO.lst [L3.LV.int 5, L3.LV.int 7], L3.LO.lst [L3.LV.ref 1, L3.LV.ref 2], L3.LO.lst [L3.LV.str [114, 101, 115, 116], L3.LV.str [97, 115, 107, 101, 100], L3.LV.str [103, 105, 118, 101, 110], L3.LV.str [112, 97, 115, 115, 101, 100], L3.LV.str [116, 111, 108, 100], L3.LV.str [99, 108, 101, 97, 114], L3.LV.str [99, 108, 111, 115, 101, 100]], L3.LO.lst [L3.LV.str [114, 101, 115, 116], L3.LV.str [111, 102, 102, 101, 114, 101, 100], L3.LV.str [116, 97, 107, 101, 110], L3.LV.str [111, 110], L3.LV.str [98, 97, 99, 107]], L3.LO.box 3], c := 0 })
def st22 : L3.St × LH := ([some (L3.LV.ref 0), some (L3.LV.int 1), none, some (L3.LV.ref 5), some (L3.LV.ref 7), none, none, none, none, none, none], { n := 9, os := [L3.LO.lst [L3.LV.str [114, 101, 115, 116], L3.LV.str [97, 115, 107, 101, 100], L3.LV.str [103, 105, 118, 101, 110], L3.LV.str [112, 97, 115, 115, 101, 100], L3.LV.str [116, 111, 108, 100], L3.LV.str [99, 108, 101, 97, 114], L3.LV.str [99, 108, 111, 115, 101, 100]], L3.LO.ins 2 [(0, L3.LV.str [112, 97, 115, 115, 101, 100])], L3.LO.lst [L3.LV.str [114, 101, 115, 116], L3.LV.str [97, 115, 107, 101, 100], L3.LV.str [103, 105, 118, 101, 110], L3.LV.str [112, 97, 115, 115, 101, 100], L3.LV.str [116, 111, 108, 100], L3.LV.str [99, 108, 101, 97, 114], L3.LV.str [99, 108, 111, 115, 101, 100]], L3.LO.ins 2 [(0, L3.LV.str [112, 97, 115, 115, 101, 100])], L3.LO.lst [L3.LV.int 5, L3.LV.int 7], L3.LO.lst [L3.LV.ref 1, L3.LV.ref 2], L3.LO.lst [L3.LV.str [114, 101, 115, 116], L3.LV.str [97, 115, 107, 101, 100], L3.LV.str [103, 105, 118, 101, 110], L3.LV.str [112, 97, 115, 115, 101, 100], L3.LV.str [116, 111, 108, 100], L3.LV.str [99, 108, 101, 97, 114], L3.LV.str [99, 108, 111, 115, 101, 100]], L3.LO.lst [L3.LV.str [114, 101, 115, 116], L3.LV.str [111, 102, 102, 101, 114, 101, 100], L3.LV.str [116, 97, 107, 101, 110], L3.LV.str [111, 110], L3.LV.str [98, 97, 99, 107]], L3.LO.box 3], c := 0 })
def st23 : L3.St × LH := ([some (L3.LV.ref 0), some (L3.LV.int 1), none, some (L3.LV.ref 5), some (L3.LV.ref 7), none, none, none, none, none, none], { n := 9, os := [L3.LO.lst [L3.LV.str [114, 101, 115, 116], L3.LV.str [97, 115, 107, 101, 100], L3.LV.str [103, 105, 118, 101, 110], L3.LV.str [112, 97, 115, 115, 101, 100], L3.LV.str [116, 111, 108, 100], L3.LV.str [99, 108, 101, 97, 114], L3.LV.str [99, 108, 111, 115, 101, 100]], L3.LO.ins 2 [(0, L3.LV.str [99, 108, 111, 115, 101, 100])], L3.LO.lst [L3.LV.str [114, 101, 115, 116], L3.LV.str [97, 115, 107, 101, 100], L3.LV.str [103, 105, 118, 101, 110], L3.LV.str [112, 97, 115, 115, 101, 100], L3.LV.str [116, 111, 108, 100], L3.LV.str [99, 108, 101, 97, 114], L3.LV.str [99, 108, 111, 115, 101, 100]], L3.LO.ins 2 [(0, L3.LV.str [99, 108, 111, 115, 101, 100])], L3.LO.lst [L3.LV.int 5, L3.LV.int 7], L3.LO.lst [L3.LV.ref 1, L3.LV.ref 2], L3.LO.lst [L3.LV.str [114, 101, 115, 116], L3.LV.str [97, 115, 107, 101, 100], L3.LV.str [103, 105, 118, 101, 110], L3.LV.str [112, 97, 115, 115, 101, 100], L3.LV.str [116, 111, 108, 100], L3.LV.str [99, 108, 101, 97, 114], L3.LV.str [99, 108, 111, 115, 101, 100]], L3.LO.lst [L3.LV.str [114, 101, 115, 116], L3.LV.str [111, 102, 102, 101, 114, 101, 100], L3.LV.str [116, 97, 107, 101, 110], L3.LV.str [111, 110], L3.LV.str [98, 97, 99, 107]], L3.LO.box 3], c := 0 })
def S : List (L3.St × LH) := [st0, st1, st2, st3, st4, st5, st6, st7, st8, st9, st10, st11, st12, st13, st14, st15, st16, st17, st18, st19, st20, st21, st22, st23]
def le (o : Option Nat) (m : Nat) : Bool := match o with
  | some d => Nat.ble d m
  | none => false
theorem le_ok {o : Option Nat} {m : Nat} (h : le o m = true) : ∃ d, d ≤ m ∧ o = some d := by
  cases o with
  | none => cases h
  | some d => exact ⟨d, Nat.le_of_ble_eq_true h, rfl⟩
def chk (p : L3.St × LH) : Bool := le (rSs (D1 9) lp.2.2.2 (p.1.set lp.2.1 none) p.2 (kS S lp.1 p.2.n)) 8
def che (p : L3.St × LH) : Bool := le (rSs (D1 9) (postOf ir12) p.1 p.2 kT) 0
def chw (p : Nat × L3.S) (u : LV) : Bool := le (bodyR (D1 8) d11.fn [.ref 0, u, .ref 1] ⟨2, [.ins p.1 [(0, .str p.2)], .box 3], 0⟩ (kSame p.1 p.2) (fun _ => none)) 3
theorem c0 : chk st0 = true := by kernel_rfl
theorem c1 : chk st1 = true := by kernel_rfl
theorem c2 : chk st2 = true := by kernel_rfl
theorem c3 : chk st3 = true := by kernel_rfl
theorem c4 : chk st4 = true := by kernel_rfl
theorem c5 : chk st5 = true := by kernel_rfl
theorem c6 : chk st6 = true := by kernel_rfl
theorem c7 : chk st7 = true := by kernel_rfl
theorem c8 : chk st8 = true := by kernel_rfl
theorem c9 : chk st9 = true := by kernel_rfl
theorem c10 : chk st10 = true := by kernel_rfl
theorem c11 : chk st11 = true := by kernel_rfl
theorem c12 : chk st12 = true := by kernel_rfl
theorem c13 : chk st13 = true := by kernel_rfl
theorem c14 : chk st14 = true := by kernel_rfl
theorem c15 : chk st15 = true := by kernel_rfl
theorem c16 : chk st16 = true := by kernel_rfl
theorem c17 : chk st17 = true := by kernel_rfl
theorem c18 : chk st18 = true := by kernel_rfl
theorem c19 : chk st19 = true := by kernel_rfl
theorem c20 : chk st20 = true := by kernel_rfl
theorem c21 : chk st21 = true := by kernel_rfl
theorem c22 : chk st22 = true := by kernel_rfl
theorem c23 : chk st23 = true := by kernel_rfl
theorem e_all : S.all che = true := by kernel_rfl
theorem w0 (u : LV) : chw (WL.getD 0 (0, [])) u = true := by kernel_rfl
theorem w1 (u : LV) : chw (WL.getD 1 (0, [])) u = true := by kernel_rfl
theorem w2 (u : LV) : chw (WL.getD 2 (0, [])) u = true := by kernel_rfl
theorem w3 (u : LV) : chw (WL.getD 3 (0, [])) u = true := by kernel_rfl
theorem w4 (u : LV) : chw (WL.getD 4 (0, [])) u = true := by kernel_rfl
theorem w5 (u : LV) : chw (WL.getD 5 (0, [])) u = true := by kernel_rfl
theorem w6 (u : LV) : chw (WL.getD 6 (0, [])) u = true := by kernel_rfl
theorem w7 (u : LV) : chw (WL.getD 7 (0, [])) u = true := by kernel_rfl
theorem w8 (u : LV) : chw (WL.getD 8 (0, [])) u = true := by kernel_rfl
theorem w9 (u : LV) : chw (WL.getD 9 (0, [])) u = true := by kernel_rfl
theorem w10 (u : LV) : chw (WL.getD 10 (0, [])) u = true := by kernel_rfl
theorem w11 (u : LV) : chw (WL.getD 11 (0, [])) u = true := by kernel_rfl
theorem c_all : ∀ p ∈ S, chk p = true := by
  intro p hp
  simp only [S, List.mem_cons, List.not_mem_nil, or_false] at hp
  rcases hp with rfl | rfl | rfl | rfl | rfl | rfl | rfl | rfl | rfl | rfl | rfl | rfl | rfl | rfl | rfl | rfl | rfl | rfl | rfl | rfl | rfl | rfl | rfl | rfl
  · exact c0
  · exact c1
  · exact c2
  · exact c3
  · exact c4
  · exact c5
  · exact c6
  · exact c7
  · exact c8
  · exact c9
  · exact c10
  · exact c11
  · exact c12
  · exact c13
  · exact c14
  · exact c15
  · exact c16
  · exact c17
  · exact c18
  · exact c19
  · exact c20
  · exact c21
  · exact c22
  · exact c23
theorem w_all : ∀ p ∈ WL, ∀ u, chw p u = true := by
  intro p hp u
  obtain ⟨i, hi, e⟩ := List.getElem_of_mem hp
  have hl : WL.length = 12 := rfl
  have e2 : WL.getD i (0, []) = p := by rw [List.getD_eq_getElem?_getD, List.getElem?_eq_getElem hi, ← e]; rfl
  rw [hl] at hi
  rw [← e2]
  match i, hi with
  | 0, _ => exact w0 u
  | 1, _ => exact w1 u
  | 2, _ => exact w2 u
  | 3, _ => exact w3 u
  | 4, _ => exact w4 u
  | 5, _ => exact w5 u
  | 6, _ => exact w6 u
  | 7, _ => exact w7 u
  | 8, _ => exact w8 u
  | 9, _ => exact w9 u
  | 10, _ => exact w10 u
  | 11, _ => exact w11 u
theorem pre_ok : rSs (D1 9) (preOf ir12) (L3.start d12.fn [.ref 0]) ⟨1, [.box 3], 0⟩ (kP (D1 9) S lp.2.2.1 12 (12 * 8 + 0)) = some 99 := by kernel_rfl
theorem split12 : ir12 = (preOf ir12).app (.cons (.for_ lp.1 (.drop lp.2.1) lp.2.2.1 lp.2.2.2) (postOf ir12)) := rfl
theorem case12 (c : Nat) (hc : 120 ≤ c) : bodyR (callN tl.pd.T Fs sp2 gcT 9) d12.fn [.ref 0] ⟨1, [.box 3], c⟩ (fun v _ => v = .bl true) (fun _ => False) := by
  have z := case_inv (D2 := callN tl.pd.T Fs sp2 gcT 9) (rel 9) rfl (k := endS (fun v _ => v = .bl true) (fun _ => False)) pre_ok (fun p hp => le_ok (c_all p hp)) (fun p hp => le_ok (List.all_eq_true.mp e_all p hp)) (fun h => rfl) c (by omega)
  rw [← split12] at z
  exact z
theorem spok : SpOk tl.pd.T Fs sp2 gcT := by
  intro f p fn n vs h k x e1 e2 q nb
  unfold sp2 at e1
  cases c6 : Nat.beq f 6 with
  | true =>
    rw [c6] at e1
    have := Nat.eq_of_beq_eq_true c6
    subst this
    cases e1
    have : fn = takeFn := by cases e2; rfl
    subst this
    exact take_ok n vs h k x q nb
  | false =>
    rw [c6] at e1
    cases c11 : (Nat.beq f 11 && Nat.beq n 8) with
    | true =>
      rw [c11] at e1
      rw [Bool.and_eq_true] at c11
      have := Nat.eq_of_beq_eq_true c11.1
      subst this
      have := Nat.eq_of_beq_eq_true c11.2
      subst this
      cases e1
      cases e2
      exact same_ok (rel 8) rfl (fun p hp u _ => le_ok (w_all p hp u)) vs h k x q nb
    | false =>
      rw [c11] at e1
      cases c12 : (Nat.beq f 12 && Nat.beq n 9) with
      | false => rw [c12] at e1; cases e1
      | true =>
        rw [c12] at e1
        rw [Bool.and_eq_true] at c12
        have := Nat.eq_of_beq_eq_true c12.1
        subst this
        have := Nat.eq_of_beq_eq_true c12.2
        subst this
        cases e1
        cases e2
        exact case_ok rfl case12 vs h k x q nb
theorem law13 (ns : List Int) (hns : ns.length ≤ 63) : (callN tl.pd.T Fs sp2 gcT (10 + 1)).call 13 [.ref 0] ⟨1, [.rol ns], 1000⟩ (fun v _ => v = .bl true) (fun _ => False) := by
  show bodyR (callN tl.pd.T Fs sp2 gcT 10) d13.fn [.ref 0] ⟨1, [.rol ns], 1000⟩ (fun v _ => v = .bl true) (fun _ => False)
  exact law_ok (D := callN tl.pd.T Fs sp2 gcT 10) (D' := callN tl.pd.T Fs sp2 gcT 9) (nc := 12) (nb := 5) (nl := 4) (CC := 120) (lo := 2) (hi := 10) (p := 7919) (q := 41) (pr := 2147483629) rfl (fun _ _ _ _ => rfl) (fun _ _ _ _ => rfl) (fun _ _ _ _ z => z) (by decide +kernel) (by decide) (by decide) (by decide) (by decide) hns (by decide)
end Tb
open PySem PySem.W PySem.Calls PyProof.Rows
theorem PySem.Challenge.cw_twocabins_k25_whole_rung_again_heard_twi_holds : PySem.Challenge.rw_twocabins_k25_whole_rung_again_heard_twi.Holds := by
  w_on; o_law
  refine HandSHeadRun.head_any (r := OpenLaw.row PySem.Challenge.rw_twocabins_k25_whole_rung_again_heard_twi) (q := view (OpenLaw.row PySem.Challenge.rw_twocabins_k25_whole_rung_again_heard_twi).prog [Tb.lawAt]) (H := Tb.hk) (ob := Tb.ob) (M := 3000) (loose := Tb.names) (d := HandSHeadRun.topDef (OpenLaw.row PySem.Challenge.rw_twocabins_k25_whole_rung_again_heard_twi).prog Tb.lawAt) (kwd := []) Tb.ob_eq
    (by kernel_rfl) (fun s => by kernel_rfl) Tb.run (by kernel_rfl) (by kernel_rfl) (by kernel_rfl) (by rfl) (by first | assumption | decide +kernel) (by decide +kernel) ⟨rfl, rfl, rfl, rfl, rfl, by decide +kernel⟩ ?hw ?hc
  case hw => w_witness2
  case hc =>
    refine L2.walk_ofE (l := PySem.Challenge.rw_twocabins_k25_whole_rung_again_heard_twi) (n := 63) (k := 22) (x := "_law_script") (CX := L2.CX0) rfl (by decide) (by kernel_rfl) ⟨rfl, by decide, by decide⟩ ?F (fun _ _ _ _ z => z)
    intro w mg fa h Y G hmg0
    have hmg : mg ("law" : PySem.Str) = some (.ref fa) := by
      have e : (HandSHeadRun.topDef (OpenLaw.row PySem.Challenge.rw_twocabins_k25_whole_rung_again_heard_twi).prog Tb.lawAt).name = ("law" : PySem.Str) := by kernel_rfl
      rw [← e]
      exact hmg0
    exact L3.law_F (P := (PySem.Challenge.rw_twocabins_k25_whole_rung_again_heard_twi).prog) (w := w) (t := Tb.tl) (nm := Tb.nm) (ds := Tb.ds) (sp := Tb.sp2) (gc := L3.gcT) (n := 10) (li := 13) (dl := Tb.d13) (x := "_law_script") (c0 := 1000) Y G hmg Tb.tlok rfl Tb.ok L3.gcT_ok Tb.spok rfl rfl rfl rfl
      (fun K fd F s u => L2.FunD.bindsA (ps := ["_law_script"]) F (fun _ _ _ _ _ _ us hl => match us, hl with | [_], _ => rfl) s [u] rfl) (by decide +kernel) Tb.law13
