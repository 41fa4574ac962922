import PyProof.Rows.All
import Wide.All
import OpenK.AllK
import Wide.FinOn
import HandS.ForMost
import HandS.More
import HandS.Exc
import HandS.TryOnly
import HandS.TryMany
import HandS.ExcOwn
import HandS.IsInst
import HandS.Defaults
import HandS.Conv
import HandS.HeadHook1
import HandS.HeadHook2
import HandS.HeadHook3
import HandS.HeadHook4
import HandS.HeadEnd
import HandS.EndBits
import HandS.RevTup
import HandS.TupAny
import HandS.DeepEq
import HandS.Style
import HandS.Flt
import HandS.Rev
import HandS.Iter
import HandS.Head0
import HandS.Head1
import HandS.Head2
import Wide.Once
import KE.KStateDown
import PyProof.NeKinds
import HandS.List
import HandS.Strs
import PyProof.ExcBaseAll.ValueError
import HandS.Set
import HandS.SetFor
import HandS.Sort
import PySem.Challenge.RW_usetally_k70_twins_apart
set_option Elab.async false
set_option linter.all false
set_option maxRecDepth 100000
namespace U
open PySem L2
/-- tup, lst, dic, ins: what never changes, told as a whole; kdc: a dict of the module's top; obj: a place of the own heap; cls, fn: the program's classes and defs by number; exc: an exception -/
inductive PV where
  | non | bl (b : Bool) | int (i : Int) | str (s : Str)
  | tup (xs : List PV) | lst (xs : List PV) | dic (ks : List Key) (vs : List PV) | kdc (ks : List Key) (vs : List PV)
  | ins (c : Nat) (vs : List PV)
  | cls (c : Nat) | fn (f : Nat) | obj (a : Nat)
  | exc (c : Nat) (vs : List PV)
  deriving Inhabited
/-- what stands at a place of the own heap -/
inductive HB where
  | lst (xs : List PV) | dic (kvs : List (Key × PV)) | ins (c : Nat) (fs : List (Nat × PV))
/-- a slot: lst, dic, own (a record) are owned by the slot alone -/
inductive Sl where
  | un | val (v : PV) | lst (xs : List PV) | dic (kvs : List (Key × PV)) | own (c : Nat) (fs : List (Nat × PV))
abbrev Hb := List HB
structure FS where
  sl : List Sl
  hp : Hb
/-- how a reckoning ends: a value, an exception of class c, or no answer -/
inductive R (σ α : Type) where
  | ok (a : α) (s : σ) | ex (c : Nat) (vs : List PV) (s : σ) | no
def R.bind {σ α β : Type} (r : R σ α) (k : α → σ → R σ β) : R σ β := match r with
  | .ok a s => k a s
  | .ex c vs s => .ex c vs s
  | .no => .no
theorem bind_ok {σ α β : Type} (a : α) (s : σ) (k : α → σ → R σ β) : (R.ok a s).bind k = k a s := rfl
theorem bind_ex {σ α β : Type} (c : Nat) (vs : List PV) (s : σ) (k : α → σ → R σ β) : (R.ex c vs s).bind k = .ex c vs s := rfl
theorem bind_no {σ α β : Type} (k : α → σ → R σ β) : (R.no : R σ α).bind k = .no := rfl
def R.up (fs : FS) : R Hb PV → R FS PV
  | .ok v h => .ok v { fs with hp := h }
  | .ex c vs h => .ex c vs { fs with hp := h }
  | .no => .no
def R.upI (fs : FS) : R Hb PV → R FS PV
  | .ok (.ins c xs) h => .ok (.ins c xs) { fs with hp := h }
  | .ok _ _ => .no
  | .ex c vs h => .ex c vs { fs with hp := h }
  | .no => .no
/-- an option's answer -/
def R.opt {σ α : Type} (s : σ) : Option α → R σ α
  | some a => .ok a s
  | none => .no
def dGet : List (Key × PV) → Key → Option PV
  | [], _ => none
  | (k, v) :: r, j => if k = j then some v else dGet r j
def dPut (kvs : List (Key × PV)) (k : Key) (v : PV) : List (Key × PV) :=
  if (kvs.any fun kv => decide (kv.1 = k)) = true then kvs.map fun kv => if kv.1 = k then (kv.1, v) else kv else kvs ++ [(k, v)]
def keyOf : PV → Option Key
  | .int i => some (.inl i)
  | .str s => some (.inr s)
  | _ => none
def keyV : Key → PV
  | .inl i => .int i
  | .inr s => .str s
def zipD : List Key → List PV → List (Key × PV)
  | k :: ks, v :: vs => (k, v) :: zipD ks vs
  | _, _ => []
def fGet : List (Nat × PV) → Nat → Option PV
  | [], _ => none
  | (k, v) :: r, j => match Nat.beq k j with
    | true => some v
    | false => fGet r j
def fPut : List (Nat × PV) → Nat → PV → List (Nat × PV)
  | [], j, w => [(j, w)]
  | (k, v) :: r, j, w => match Nat.beq k j with
    | true => (k, w) :: r
    | false => (k, v) :: fPut r j w
def fIx : List Nat → List PV → Nat → Option PV
  | k :: ks, v :: vs, j => match Nat.beq k j with
    | true => some v
    | false => fIx ks vs j
  | _, _, _ => none
def asL (h : Hb) : PV → Option (List PV)
  | .lst xs => some xs
  | .obj a => match h[a]? with
    | some (.lst xs) => some xs
    | _ => none
  | _ => none
/-- a list or a tuple -/
def asS (h : Hb) : PV → Option (List PV)
  | .tup xs => some xs
  | v => asL h v
def asD (h : Hb) : PV → Option (List (Key × PV))
  | .dic ks vs => some (zipD ks vs)
  | .obj a => match h[a]? with
    | some (.dic kvs) => some kvs
    | _ => none
  | _ => none
inductive BO where | add | sub | mul | fdiv | mod | pow
inductive CO where | eq | ne | lt | le | gt | ge | in_ | nin
/-- built-in defs -/
inductive BF where | len | abs | min2 | max2 | max3 | int1 | str1 | all | any | sum
/-- methods that change nothing -/
inductive BM where | count | index | get1 | get2 | join
/-- methods that change a list or dict -/
inductive MM where | append | extend | pop | popi | insert | clear
/-- what isinstance asks for -/
inductive TyR where | cls (c : Nat) | ty (n : String)
inductive Tg where | n (i : Nat) | t (is : List Nat)
mutual
inductive E where
  | var (i : Nat) | frz (i : Nat)
  | int (i : Int) | str (s : Str) | bl (b : Bool) | non
  | gcls (c : Nat) | gfn (f : Nat) | gc (g : Nat)
  | tup (es : Es) | lst (l : LE) | hlst (l : LE) | dic (d : DE) | hdic (d : DE)
  | bin (o : BO) (a b : E) | neg (a : E)
  | cmp (o : CO) (a b : E) | chn (o o' : CO) (a b c : E)
  | andv (a b : E) | orv (a b : E) | notv (a : E) | isn (a : E) (neg : Bool)
  | ifx (t : T) (a b : E)
  | fld (a : E) (k : Nat)
  | ix (a b : E)
  | sl (a : E) (lo hi : O)
  | call (f : Nat) (es : Es)
  | callv (a : E) (es : Es)
  | mk (c : Nat) (es : Es) | mkh (c : Nat) (es : Es)
  | meth (a : E) (m : Nat) (es : Es)
  | bf (b : BF) (es : Es)
  | bm (m : BM) (a : E) (es : Es)
  | get2 (a b d : E)
  | mm (m : MM) (a : E) (es : Es)
  | mo (m : MM) (i : Nat) (es : Es)
  | isi (a : E) (cs : List TyR)
inductive O where | n | e (a : E)
inductive Es where | nil | cons (e : E) (es : Es)
/-- what makes a new list -/
inductive LE where
  | disp (es : Es)
  | comp (elt : E) (tg : Tg) (it : IE) (wipe : List Nat) (ts : Ts)
  | of (a : E)
  | sl (a : E) (lo hi : O)
  | cat (a b : E) | rep (a b : E)
  | call (f : Nat) (es : Es) | meth (a : E) (m : Nat) (es : Es)
  | srtd (a : E) | srts (a : E) | vals (a : E) | rvs (a : E)
/-- what makes a new dict -/
inductive DE where
  | emp | disp (es : Ds) | of (a : E)
  | call (f : Nat) (es : Es) | meth (a : E) (m : Nat) (es : Es)
inductive Ds where | nil | cons (k v : E) (es : Ds)
/-- tests -/
inductive T where
  | v (e : E) | cmp (o : CO) (a b : E) | chn (o o' : CO) (a b c : E) | and_ (a b : T) | or_ (a b : T) | not_ (a : T)
inductive Ts where | nil | cons (t : T) (ts : Ts)
/-- what is walked -/
inductive IE where
  | v (a : E) | rng1 (a : E) | rng2 (a b : E) | rev (a : E)
end
/-- a suite behind except: nothing that could raise -/
inductive Hx where | set (i : Nat) (v : PV) | ret (v : PV)
inductive Hd where | mk (c : Nat) (as : Option Nat) (x : Hx)
mutual
inductive S where
  | ex (e : E)
  | set (i : Nat) (e : E) | setl (i : Nat) (l : LE) | setd (i : Nat) (d : DE)
  | unp (is : List Nat) (e : E)
  | par2 (i j : Nat) (a b : E)
  | setf (a : E) (k : Nat) (e : E) | setr (k : Nat) (e : E)
  | seti (a b e : E) | seto (i : Nat) (b e : E)
  | aug (i : Nat) (o : BO) (e : E) | augf (a : E) (k : Nat) (o : BO) (e : E) | augi (a b : E) (o : BO) (e : E) | augo (i : Nat) (b : E) (o : BO) (e : E)
  | ite (t : T) (x y : Ss)
  | whl (t : T) (x : Ss)
  | for_ (tg : Tg) (it : IE) (x : Ss)
  | ret (e : E) | retl (l : LE) | retd (d : DE) | reto (i : Nat) | retn | brk | cnt | pas
  | rse (c : Nat) (es : Es) | nev
  | try_ (x : Ss) (hs : List Hd)
inductive Ss where | nil | cons (s : S) (ss : Ss)
end
end U
namespace U
open PySem L2
structure Fd where
  np : Nat
  ns : Nat
  kind : Option Nat := none
  dfl : List PV := []
  fresh : Bool := false
  body : Ss
structure Cl where
  flds : List Nat
  init : Option Nat
  froz : Bool
  exc : Bool := false
  sups : List Nat
structure Tab where
  fns : Nat → Option Fd
  cls : Nat → Option Cl
  meth : Nat → Nat → Option Nat
  gcs : Nat → Option PV
abbrev Cal := Nat → List PV → Hb → R Hb PV
structure Ev where
  G : Tab
  run : Cal
  runI : Cal
  wf : Nat
def evBin (o : BO) (x y : PV) : Option PV :=
  match o, x, y with
  | .add, .int i, .int j => some (.int (i + j))
  | .add, .str a, .str b => if a.length + b.length ≤ sizeLine then some (.str (a ++ b)) else none
  | .add, .tup a, .tup b => if a.length + b.length ≤ sizeLine then some (.tup (a ++ b)) else none
  | .sub, .int i, .int j => some (.int (i - j))
  | .mul, .int i, .int j => if (-(2 ^ 64) < i ∧ i < 2 ^ 64) ∨ (-(2 ^ 64) < j ∧ j < 2 ^ 64) then some (.int (i * j)) else none
  | .fdiv, .int i, .int j => if 0 < j ∧ j < 1073741824 then some (.int (i / j)) else none
  | .mod, .int i, .int j => if 0 < j then some (.int (i % j)) else none
  | _, _, _ => none
/-- the same in place: ints alone -/
def evAug (o : BO) (x y : PV) : Option PV :=
  match o, x, y with
  | .add, .int i, .int j => some (.int (i + j))
  | .sub, .int i, .int j => some (.int (i - j))
  | _, _, _ => none
mutual
/-- plain data, as the library tells it (what isn't plain becomes a dict, which isn't shaped) -/
def toD : PV → PyData
  | .non => .none
  | .bl b => .bool b
  | .int i => .int i
  | .str x => .str x
  | .tup xs => .tuple (toDs xs)
  | .lst xs => .list (toDs xs)
  | _ => .dict []
def toDs : List PV → List PyData
  | [] => []
  | x :: xs => toD x :: toDs xs
end
def eqv (x y : PV) : Bool := PyData.eqv (toD x) (toD y)
def plain (x : PV) : Bool := SeqAt.shaped (toD x)
def flat : PV → Bool
  | .non => true
  | .bl _ => true
  | .int _ => true
  | .str _ => true
  | _ => false
def inL (x : PV) : List PV → Bool
  | [] => false
  | y :: ys => eqv y x || inL x ys
/-- the list that a value is, told as a frozen one -/
def thaw (h : Hb) (x : PV) : PV := match asL h x with
  | some xs => .lst xs
  | none => x
def dEq : List (Key × PV) → List (Key × PV) → Option Bool
  | [], _ => some true
  | (k, v) :: r, ys => match dGet ys k with
    | some w => if plain v && plain w then (dEq r ys).map (eqv v w && ·) else none
    | none => some false
def sameF : PV → PV → Bool
  | .non, .non => true
  | .bl a, .bl b => decide (a = b)
  | .int a, .int b => decide (a = b)
  | .str a, .str b => decide (a = b)
  | _, _ => false
def allP (e : PV → PV → Bool) : List PV → List PV → Bool
  | [], [] => true
  | x :: xs, y :: ys => e x y && allP e xs ys
  | _, _ => false
def allD (e : PV → PV → Bool) (ys : List (Key × PV)) : List (Key × PV) → Bool
  | [] => true
  | (k, v) :: r => (match dGet ys k with
    | some w => e v w
    | none => false) && allD e ys r
/-- equal, surely: lists and dicts of equal things, to a depth -/
def deepE (h : Hb) : Nat → PV → PV → Bool
  | 0, _, _ => false
  | n + 1, x, y => sameF x y || (match asL h x, asL h y with
    | some xs, some ys => allP (deepE h n) xs ys
    | _, _ => match asD h x, asD h y with
      | some a, some b => decide (a.length = b.length) && allD (deepE h n) b a
      | _, _ => false)
def evEq (h : Hb) (x y : PV) : Option Bool :=
  match asD h x, asD h y with
  | some a, some b => if a.length = b.length then dEq a b else some false
  | _, _ => if plain (thaw h x) && plain (thaw h y) then some (eqv (thaw h x) (thaw h y)) else match asL h x, asL h y with
    | some xs, some ys => if allP (deepE h 8) xs ys then some true else none
    | _, _ => none
def evIn (h : Hb) (x y : PV) : Option Bool :=
  match x, y with
  | .str a, .str z => match a.cps.toList with
    | [c] => some (decide (c ∈ z.cps.toList))
    | _ => none
  | .str a, .kdc ks vs => some (dGet (zipD ks vs) (.inr a)).isSome
  | x, y => match asS h y with
    | some ys => if flat x && ys.all flat then some (inL x ys) else none
    | none => match asD h y, keyOf x with
      | some kvs, some k => some (dGet kvs k).isSome
      | _, _ => none
def evCmp (o : CO) (h : Hb) (x y : PV) : Option Bool :=
  match o with
  | .lt => match x, y with
    | .int i, .int j => some (decide (i < j))
    | _, _ => none
  | .le => match x, y with
    | .int i, .int j => some (decide (i ≤ j))
    | _, _ => none
  | .gt => match x, y with
    | .int i, .int j => some (decide (j < i))
    | _, _ => none
  | .ge => match x, y with
    | .int i, .int j => some (decide (j ≤ i))
    | _, _ => none
  | .in_ => evIn h x y
  | .nin => (evIn h x y).map (!·)
  | .eq => evEq h x y
  | .ne => (evEq h x y).map (!·)
def evIx (h : Hb) (x y : PV) : Option PV :=
  match x, y with
  | .str z, .int i => if z.length ≤ sizeLine then (atI z.cps.toList i).map fun c => .str ⟨#[c]⟩ else none
  | .kdc ks vs, .str z => dGet (zipD ks vs) (.inr z)
  | x, y => match asS h x with
    | some xs => match y with
      | .int i => atI xs i
      | _ => none
    | none => match asD h x, keyOf y with
      | some kvs, some k => dGet kvs k
      | _, _ => none
def cut {α : Type} (xs : List α) (lo hi : Option Int) : List α := (xs.drop (HT.sIx xs.length 0 lo)).take (HT.sIx xs.length xs.length hi - HT.sIx xs.length 0 lo)
/-- a slice of a text or a tuple -/
def evSl (x : PV) (lo hi : Option Int) : Option PV :=
  match x with
  | .str z => if z.length ≤ sizeLine then some (.str (cutS z lo hi)) else none
  | .tup xs => some (.tup (cut xs lo hi))
  | _ => none
def asI : PV → Option Int
  | .int i => some i
  | _ => none
def allB : List PV → Option Bool
  | [] => some true
  | .bl b :: r => (allB r).map (b && ·)
  | _ :: _ => none
def anyB : List PV → Option Bool
  | [] => some false
  | .bl b :: r => (anyB r).map (b || ·)
  | _ :: _ => none
def sumI : List PV → Option Int
  | [] => some 0
  | .int i :: r => (sumI r).map (i + ·)
  | _ :: _ => none
def evBF (b : BF) (h : Hb) (vs : List PV) : Option PV :=
  match b, vs with
  | .len, [x] => match x with
    | .str z => if z.length ≤ sizeLine then some (.int z.length) else none
    | x => (asS h x).map fun xs => .int xs.length
  | .abs, [.int i] => some (.int (if i < 0 then -i else i))
  | .min2, [.int i, .int j] => some (.int (if j < i then j else i))
  | .max2, [.int i, .int j] => some (.int (if j > i then j else i))
  | .max3, [.int i, .int j, .int k] => some (.int (if k > (if j > i then j else i) then k else (if j > i then j else i)))
  | .int1, [.int i] => some (.int i)
  | .int1, [.bl k] => some (.int (if k then 1 else 0))
  | .str1, [.int i] => if i.natAbs.log2 < 1920 then some (.str (toString i)) else none
  | .all, [x] => (asL h x).bind fun xs => (allB xs).map .bl
  | .any, [x] => (asL h x).bind fun xs => (anyB xs).map .bl
  | .sum, [x] => (asL h x).bind fun xs => (sumI xs).map .int
  | _, _ => none
def txts : List PV → Option (List Str)
  | [] => some []
  | .str z :: r => (txts r).map (z :: ·)
  | _ :: _ => none
def cntL (x : PV) : List PV → Int
  | [] => 0
  | y :: ys => (if eqv y x then 1 else 0) + cntL x ys
def evBM (m : BM) (h : Hb) (x : PV) (vs : List PV) : Option PV :=
  match m, vs with
  | .count, [y] => (asL h x).bind fun xs => if flat y && xs.all flat then some (.int (cntL y xs)) else none
  | .join, [y] => match x with
    | .str z => (asS h y).bind fun ys => (txts ys).bind fun ts => if (ts.map Str.length).sum + ts.length * z.length ≤ 16777216 then some (.str (Txt.join z ts)) else none
    | _ => none
  | _, _ => none
/-- d.get(k, z) -/
def getO (h : Hb) (x y z : PV) : Option PV := (asD h x).bind fun kvs => (keyOf y).map fun k => (dGet kvs k).getD z
def tynames : List String := ["NoneType", "bool", "int", "str", "tuple", "list", "dict"]
def tyOf : Hb → PV → Option String
  | _, .non => some "NoneType"
  | _, .bl _ => some "bool"
  | _, .int _ => some "int"
  | _, .str _ => some "str"
  | _, .tup _ => some "tuple"
  | _, .lst _ => some "list"
  | _, .dic _ _ => some "dict"
  | h, .obj a => match h[a]? with
    | some (.lst _) => some "list"
    | some (.dic _) => some "dict"
    | _ => none
  | _, _ => none
def clOf : Hb → PV → Option Nat
  | _, .ins c _ => some c
  | h, .obj a => match h[a]? with
    | some (.ins c _) => some c
    | _ => none
  | _, _ => none
def isOne (G : Tab) (h : Hb) (x : PV) : TyR → Option Bool
  | .ty n => match tyOf h x with
    | some t => some (t == n || (t == "bool" && n == "int"))
    | none => match clOf h x with
      | some d => match G.cls d with
        | some cl => if cl.exc then none else some false
        | none => none
      | none => none
  | .cls c => match G.cls c with
    | none => none
    | some _ => match clOf h x with
      | some d => match G.cls d with
        | some cl => if cl.exc then none else some (cl.sups.contains c)
        | none => none
      | none => (tyOf h x).map fun _ => false
def isAny (G : Tab) (h : Hb) (x : PV) : List TyR → Option Bool
  | [] => some false
  | t :: ts => match isOne G h x t with
    | some true => some true
    | some false => isAny G h x ts
    | none => none
def evMM (m : MM) (h : Hb) (xs : List PV) (vs : List PV) : Option (PV × List PV) :=
  match m, vs with
  | .append, [y] => if xs.length < sizeLine then some (.non, xs ++ [y]) else none
  | .extend, [y] => (asL h y).bind fun ys => if xs.length + ys.length ≤ sizeLine then some (.non, xs ++ ys) else none
  | .pop, [] => (xs[xs.length - 1]?).map fun y => (y, xs.dropLast)
  | _, _ => none
def FS.get (fs : FS) (i : Nat) : Option PV := match fs.sl[i]? with
  | some (.val v) => some v
  | _ => none
def FS.set (fs : FS) (i : Nat) (v : PV) : FS := { fs with sl := fs.sl.set i (.val v) }
def setAll : List Nat → List PV → FS → Option FS
  | [], [], fs => some fs
  | i :: is, v :: vs, fs => setAll is vs (fs.set i v)
  | _, _, _ => none
def asg (tg : Tg) (v : PV) (fs : FS) : Option FS := match tg with
  | .n i => some (fs.set i v)
  | .t is => match v with
    | .tup vs => setAll is vs fs
    | _ => none
/-- a comprehension's frame: what slots own is out of sight -/
def blind : Sl → Sl
  | .val v => .val v
  | _ => .un
def wip (sl : List Sl) : List Nat → List Sl
  | [] => sl
  | i :: is => (wip sl is).set i .un
def blk (fs : FS) (vs : List Nat) : FS := { fs with sl := wip (fs.sl.map blind) vs }
/-- how a statement ends -/
inductive Fl where | nx | rt (v : PV) | bk | ct
def forN (body : PV → FS → R FS Fl) : List PV → FS → R FS Fl
  | [], fs => .ok .nx fs
  | x :: r, fs => match body x fs with
    | .ok .nx fs' => forN body r fs'
    | .ok .ct fs' => forN body r fs'
    | .ok .bk fs' => .ok .nx fs'
    | .ok (.rt v) fs' => .ok (.rt v) fs'
    | .ex c vs fs' => .ex c vs fs'
    | .no => .no
def whlN (test : FS → R FS Bool) (body : FS → R FS Fl) : Nat → FS → R FS Fl
  | 0, _ => .no
  | n + 1, fs => (test fs).bind fun b fs1 => match b with
    | false => .ok .nx fs1
    | true => match body fs1 with
      | .ok .nx fs' => whlN test body n fs'
      | .ok .ct fs' => whlN test body n fs'
      | .ok .bk fs' => .ok .nx fs'
      | .ok (.rt v) fs' => .ok (.rt v) fs'
      | .ex c vs fs' => .ex c vs fs'
      | .no => .no
/-- a comprehension: one turn behind the other, nothing raised -/
def cmpN (turn : PV → FS → R FS (Option PV)) : List PV → Hb → List Sl → List PV → R Hb (List PV)
  | [], h, _, acc => .ok acc h
  | x :: r, h, sl, acc => match turn x { sl := sl, hp := h } with
    | .ok (some y) fs => if acc.length < sizeLine then cmpN turn r fs.hp sl (acc ++ [y]) else .no
    | .ok none fs => cmpN turn r fs.hp sl acc
    | _ => .no
def range0 : Nat → Int → List PV
  | 0, _ => []
  | n + 1, i => .int i :: range0 n (i + 1)
def chars : List Nat → List PV
  | [] => []
  | c :: r => .str ⟨#[c]⟩ :: chars r
def dft (G : Tab) (f : Nat) (vs : List PV) : List PV := match G.fns f with
  | some fd => vs ++ fd.dfl.drop (fd.dfl.length - (fd.np - vs.length))
  | none => vs
/-- what is walked, item by item: nothing that may change meanwhile -/
def asIt : PV → Option (List PV)
  | .str z => some (chars z.cps.toList)
  | .tup xs => some xs
  | .lst xs => some xs
  | _ => none
def asRv : PV → Option (List PV)
  | .tup xs => some xs
  | .lst xs => some xs
  | _ => none
/-- list(x) -/
def asOf (h : Hb) (x : PV) : Option (List PV) := match asS h x with
  | some xs => some xs
  | none => (asD h x).map fun kvs => kvs.map fun kv => keyV kv.1
/-- texts in rising order -/
def insT (x : Str) : List Str → List Str
  | [] => [x]
  | y :: ys => if x.cps.toList ≤ y.cps.toList then x :: y :: ys else y :: insT x ys
def sortT : List Str → List Str
  | [] => []
  | x :: xs => insT x (sortT xs)
def dedupT : List Str → List Str
  | [] => []
  | x :: xs => if x ∈ xs then dedupT xs else x :: dedupT xs
/-- a def whose answer is a value; one that answers with a new list or dict; an __init__ of a frozen class -/
def plainFn (G : Tab) (f : Nat) : Bool := match G.fns f with
  | some fd => match fd.kind, fd.fresh with
    | none, false => true
    | _, _ => false
  | none => false
def freshFn (G : Tab) (f : Nat) : Bool := match G.fns f with
  | some fd => match fd.kind, fd.fresh with
    | none, true => true
    | _, _ => false
  | none => false
def initFn (G : Tab) (f c : Nat) : Bool := match G.fns f with
  | some fd => match fd.kind with
    | some d => Nat.beq d c
    | none => false
  | none => false
end U
set_option autoImplicit false
namespace U
open PySem PySem.Spec L2
/-- the program's names -/
structure Wd where
  G : Tab
  cn : Nat → Str
  an : Nat → Str
  mn : Nat → Str
  gn : Nat → Str
  fat : Nat → Str × Option Str
  kw : Nat → List (Nat × List Str) := fun _ => []
  kwm : Nat → List (Nat × List Str) := fun _ => []
section
variable (W : Wd) (K : PySem.W.Frag) (w : World)
def ca (c : Nat) : Addr := He.ga K (W.cn c)
def fa (f : Nat) : Addr := He.fAd K (W.fat f)
end
/-- the built-in names that the texts may use -/
def bnames : List Str := ["len", "abs", "min", "max", "int", "str", "list", "dict", "tuple", "set", "sorted", "sum", "all", "any", "range", "reversed", "enumerate", "zip", "isinstance", "repr", "bool", "ValueError"]
end U
namespace U
open PySem PySem.Spec L2 PyProof.Rows
section
variable (W : Wd) (K : PySem.W.Frag)
/-- a plain constant -/
def rscB : Value → PV → Bool
  | .none, .non => true
  | .bool b, .bl c => b == c
  | .int i _, .int j => decide (i = j)
  | .str x _, .str y => decide (x = y)
  | .ref a, .cls c => decide (a = ca W K c)
  | .ref a, .fn f => decide (a = fa W K f)
  | _, _ => false
def rscsB : List Value → List PV → Bool
  | [], [] => true
  | u :: us, x :: xs => rscB W K u x && rscsB us xs
  | _, _ => false
def txtsK : List Key → List Str
  | [] => []
  | .inr z :: r => z :: txtsK r
  | .inl _ :: r => txtsK r
def kvB (a : Addr) (kvs : List (Key × PV)) : Bool := kvs.all fun q => match q.1 with
  | .inr z => (match PySem.W.nsIn K a z with
    | some (some u) => rscB W K u q.2
    | _ => false)
  | .inl _ => false
/-- a constant of the module -/
def gcB (g : Nat) (x : PV) : Bool := match PySem.W.nsIn K mainGlobals (W.gn g) with
  | some (some u) => (match x with
    | .tup xs => (match u with
      | .ref a => (match K.lookup a with
        | some ⟨.type c, _, .seq its _, _⟩ => decide (c = "tuple") && (decide (its.size ≤ sizeLine) && rscsB W K its.toList xs)
        | _ => false)
      | _ => false)
    | .kdc ks xs => (match u with
      | .ref a => decide (ks.length = xs.length) && kvB W K a (zipD ks xs)
      | _ => false)
    | x => rscB W K u x)
  | _ => false
/-- an exception class -/
def exB (cs : List Nat) (c : Nat) (cl : Cl) : Bool := cl.flds.isEmpty && ((He.Fa.exc (W.cn c)).ok K && cs.all fun d => match W.G.cls d with
    | some dl => !dl.exc || decide (PySem.W.exmOne K (.ref (ca W K c)) (.ref (ca W K d)) = some (cl.sups.contains d))
    | none => true)
def iniB (c : Nat) (cl : Cl) : Bool := match cl.init with
  | some f => PySem.W.makesIn K (ca W K c) && (He.eqO (PySem.W.findIn K (.ref (ca W K c)) "__init__") (some (some (.ref (fa W K f)))) && PySem.W.isFn K (.ref (fa W K f)))
  | none => !cl.froz || (cl.flds.isEmpty && (PySem.W.makesIn K (ca W K c) && He.eqO (PySem.W.findIn K (.ref (ca W K c)) "__init__") (some (some (.builtin "object.__init__")))))
def iscB (cs : List Nat) (c : Nat) (cl : Cl) : Bool := (cs.all fun d => match W.G.cls d with
      | some _ => decide (PySem.W.kitOne K (.ref (ca W K c)) (.ref (ca W K d)) = some (cl.sups.contains d))
      | none => true) && tynames.all fun n => decide (PySem.W.kitOne K (.ref (ca W K c)) (.type n) = some false)
def isxB (c : Nat) : Bool := He.eqO (PySem.W.findIn K (.ref (ca W K c)) "__class__") (some (some (.builtin "object.__class__"))) && (He.eqO (PySem.W.specialIn K (.builtin "object.__class__") "__get__") (some (some (.builtin "getset_descriptor.__get__"))) &&
      (decide (PySem.W.takesIn K (.builtin "object.__class__") = some true) && decide (PySem.W.mroIn K (ca W K c) (.type "object") = some true)))
/-- a plain class -/
def plB (cs : List Nat) (c : Nat) (cl : Cl) : Bool := (He.Fa.cls (W.cn c)).ok K && (iniB W K c cl && ((cl.flds.all fun k => He.eqO (PySem.W.findIn K (.ref (ca W K c)) (W.an k)) (some none)) && (iscB W K cs c cl && isxB W K c)))
/-- a class -/
def clB (cs : List Nat) (c : Nat) (cl : Cl) : Bool :=
  He.eqO (PySem.W.nsIn K mainGlobals (W.cn c)) (some (some (.ref (ca W K c)))) && (PySem.W.keepIn K (.ref (ca W K c)) &&
  ((cl.flds.all fun k => cl.flds.all fun j => !(decide (W.an k = W.an j)) || decide (k = j)) &&
  ((tynames.all fun n => decide (PySem.W.kitOne K (.type n) (.ref (ca W K c)) = some false)) &&
  (match cl.exc with
  | true => exB W K cs c cl
  | false => plB W K cs c cl))))
def meB (c m f : Nat) : Bool := match W.G.cls c with
  | some cl => !cl.exc && (He.eqO (PySem.W.findIn K (.ref (ca W K c)) (W.mn m)) (some (some (.ref (fa W K f)))) && (PySem.W.isFn K (.ref (fa W K f)) && (PySem.W.keepIn K (.ref (fa W K f)) &&
    ((cl.flds.all fun k => !(decide (W.an k = W.mn m))) && (W.kwm m).all fun p => decide ((p.1 + 1, p.2) ∈ W.kw f)))))
  | none => (W.kwm m).all fun p => decide ((p.1 + 1, p.2) ∈ W.kw f)
def fnB (f : Nat) : Bool := PySem.W.keepIn K (.ref (fa W K f)) && (match (W.fat f).2 with
  | none => He.eqO (PySem.W.nsIn K mainGlobals (W.fat f).1) (some (some (.ref (fa W K f))))
  | some _ => true)
/-- all that Kf says -/
def kfB (cs : List Nat) (ms : List (Nat × Nat)) (fs gs : List Nat) : Bool :=
  (cs.all fun c => match W.G.cls c with | some cl => clB W K cs c cl | none => true) && ((ms.all fun p => match W.G.meth p.1 p.2 with | some f => meB W K p.1 p.2 f | none => true) &&
  ((fs.all fun f => fnB W K f) && ((gs.all fun g => match W.G.gcs g with | some x => gcB W K g x | none => true) && bnames.all fun x => He.eqO (PySem.W.nsIn K mainGlobals x) (some none))))
/-- the tables among the constants -/
def tabsU (gs : List Nat) : List He.Tab := gs.filterMap fun g => match W.G.gcs g with
  | some (.kdc ks _) => some (fun K => He.ga K (W.gn g), txtsK ks)
  | _ => none
end
end U
namespace U
open PySem PySem.Spec L2 PyProof.Rows
/-- no lists: the law's argument is none of these -/
def noL (o : Obj) : Bool := match o.cls with
  | .type c => !decide (c = "list")
  | _ => true
def frN (g : Addr → Option Obj) (as : List Addr) : PySem.W.Frag := (He.frG g as).filter fun q => noL q.2
theorem frN_mem {g : Addr → Option Obj} {as : List Addr} {a : Addr} {o : Obj} (h : (frN g as).lookup a = some o) : g a = some o ∧ noL o = true := by
  have m := List.mem_filter.mp (He.lookup_mem h)
  exact ⟨He.frG_mem m.1, m.2⟩
theorem frN_in {as : List Addr} {h : Heap} : (frN h.get? as).In h := fun _ _ e => (frN_mem e).1
/-- where the facts stand: the module's names, the classes' names, the defs' code and defaults -/
def valsAt (g : Addr → Option Obj) (a : Addr) : List Addr := match g a with
  | some ⟨_, _, .dict es _, _⟩ => es.toList.flatMap fun e => He.refV e.val
  | _ => []
def nsAt (g : Addr → Option Obj) (a : Addr) : List Addr := match g a with
  | some ⟨_, _, .cls cd, _⟩ => [cd.ns]
  | _ => []
def cdAt (g : Addr → Option Obj) (a : Addr) : List Addr := match g a with
  | some ⟨_, _, .func fd, _⟩ => He.refV fd.code ++ He.refV fd.defaults
  | _ => []
def asU2 (g : Addr → Option Obj) (gl ns ms : List Addr) : List Addr := mainGlobals :: (ns ++ gl ++ ms ++ (gl ++ ms).flatMap (cdAt g))
def asU1 (g : Addr → Option Obj) (gl ns : List Addr) : List Addr := asU2 g gl ns (ns.flatMap (valsAt g))
def asU0 (g : Addr → Option Obj) (gl : List Addr) : List Addr := asU1 g gl (gl.flatMap (nsAt g))
def asU (g : Addr → Option Obj) : List Addr := asU0 g (valsAt g mainGlobals)
section
variable (W : Wd) (fn : List He.DefD) (cs : List Nat) (ms : List (Nat × Nat)) (fs gs : List Nat)
def obsU (g : Addr → Option Obj) : He.AlT × Bool := (He.obsT [] fn (tabsU W gs) (frN g (asU g)), kfB W (frN g (asU g)) cs ms fs gs)
structure SaysU (w : World) (h : Heap) (K : PySem.W.Frag) : Prop where
  X : K.In h
  t : He.SaysT [] fn (tabsU W gs) w K
  b : kfB W K cs ms fs gs = true
  nl : ∀ a o, K.lookup a = some o → o.cls ≠ .type "list"
def hookU : PySem.W.Hook where
  α := He.AlT × Bool
  obs := fun s => obsU W fn cs ms fs gs s.heap.get?
  val := fun w => (He.valT fn (tabsU W gs) w, true)
  says := fun w h => ∃ K : PySem.W.Frag, SaysU W fn cs ms fs gs w h K
  of := fun _ _ e => ⟨_, frN_in, congrArg Prod.fst e, congrArg Prod.snd e, fun a o l q => by
    have z := (frN_mem l).2
    unfold noL at z
    rw [q] at z
    simp at z⟩
  keeps := fun _ _ _ ⟨K, c⟩ k => ⟨K, PySem.W.Frag.In.keeps c.X k, c.t, c.b, c.nl⟩
end
end U
namespace U
open PySem L2
/-- a table -/
def lk {α : Type} : List (Nat × α) → Nat → Option α
  | [], _ => none
  | (k, v) :: r, j => match Nat.beq k j with
    | true => some v
    | false => lk r j
/-- is_name: thing, sign -/
def b_is_name : Ss := (.cons (.ite (.or_ (.not_ (.v (.isi (.var 0) [.ty "str"]))) (.not_ (.chn .le .le (.int 1) (.bf .len (.cons (.var 0) .nil)) (.gc 1)))) (.cons (.ret (.bl false))
  .nil) .nil)
  (.cons (.ret (.bf .all (.cons (.lst (.comp (.cmp .in_ (.var 1) (.gc 0)) (.n 1) (.v (.var 0)) [1] .nil)) .nil)))
  .nil))
def f_is_name : Fd := { np := 1, ns := 2, kind := none, dfl := [], fresh := false, body := b_is_name }
/-- is_whole: thing -/
def b_is_whole : Ss := (.cons (.ret (.andv (.isi (.var 0) [.ty "int"]) (.notv (.isi (.var 0) [.ty "bool"]))))
  .nil)
def f_is_whole : Fd := { np := 1, ns := 1, kind := none, dfl := [], fresh := false, body := b_is_whole }
/-- need_name: thing -/
def b_need_name : Ss := (.cons (.ite (.not_ (.v (.call 4 (.cons (.var 0) .nil)))) (.cons (.rse 1 (.cons (.str "a name has 1 to 8 small letters") .nil))
  .nil) .nil)
  .nil)
def f_need_name : Fd := { np := 1, ns := 1, kind := none, dfl := [], fresh := false, body := b_need_name }
/-- Term.parts: self -/
def b_Term_parts : Ss := (.cons (.retl (.disp .nil))
  .nil)
def f_Term_parts : Fd := { np := 1, ns := 1, kind := none, dfl := [], fresh := true, body := b_Term_parts }
/-- Term.rebuilt: self, parts -/
def b_Term_rebuilt : Ss := (.cons (.ret (.var 0))
  .nil)
def f_Term_rebuilt : Fd := { np := 2, ns := 2, kind := none, dfl := [], fresh := false, body := b_Term_rebuilt }
/-- Term.binds: self -/
def b_Term_binds : Ss := (.cons (.ret .non)
  .nil)
def f_Term_binds : Fd := { np := 1, ns := 1, kind := none, dfl := [], fresh := false, body := b_Term_binds }
/-- Term.told: self -/
def b_Term_told : Ss := (.cons (.ret (.tup (.cons (.str "open") .nil)))
  .nil)
def f_Term_told : Fd := { np := 1, ns := 1, kind := none, dfl := [], fresh := false, body := b_Term_told }
/-- Term.free: self, names, part, name -/
def b_Term_free : Ss := (.cons (.setl 1 (.disp .nil))
  (.cons (.for_ (.n 2) (.v (.lst (.meth (.var 0) 0 .nil))) (.cons (.ex (.mo .extend 1 (.cons (.lst (.comp (.var 3) (.n 3) (.v (.lst (.meth (.var 2) 5 .nil))) [3] (.cons (.cmp .ne (.var 3) (.meth (.var 0) 2 .nil)) .nil))) .nil)))
  .nil))
  (.cons (.retl (.srts (.frz 1)))
  .nil)))
def f_Term_free : Fd := { np := 1, ns := 4, kind := none, dfl := [], fresh := true, body := b_Term_free }
/-- need_terms: things, thing -/
def b_need_terms : Ss := (.cons (.for_ (.n 1) (.v (.var 0)) (.cons (.ite (.not_ (.v (.isi (.var 1) [.cls 14]))) (.cons (.rse 1 (.cons (.str "a part is a term") .nil))
  .nil) .nil)
  .nil))
  .nil)
def f_need_terms : Fd := { np := 1, ns := 2, kind := none, dfl := [], fresh := false, body := b_need_terms }
/-- Name.__init__: self, name -/
def b_Name_init : Ss := (.cons (.ex (.call 6 (.cons (.var 1) .nil)))
  (.cons (.setr 1 (.var 1))
  .nil))
def f_Name_init : Fd := { np := 1, ns := 2, kind := some 16, dfl := [], fresh := false, body := b_Name_init }
/-- Name.told: self -/
def b_Name_told : Ss := (.cons (.ret (.tup (.cons (.str "name") (.cons (.fld (.var 0) 1) .nil))))
  .nil)
def f_Name_told : Fd := { np := 1, ns := 1, kind := none, dfl := [], fresh := false, body := b_Name_told }
/-- Name.free: self -/
def b_Name_free : Ss := (.cons (.retl (.disp (.cons (.fld (.var 0) 1) .nil)))
  .nil)
def f_Name_free : Fd := { np := 1, ns := 1, kind := none, dfl := [], fresh := true, body := b_Name_free }
/-- Number.__init__: self, number -/
def b_Number_init : Ss := (.cons (.ite (.not_ (.v (.call 5 (.cons (.var 1) .nil)))) (.cons (.rse 1 (.cons (.str "a number is whole") .nil))
  .nil) .nil)
  (.cons (.setr 4 (.var 1))
  .nil))
def f_Number_init : Fd := { np := 1, ns := 2, kind := some 17, dfl := [], fresh := false, body := b_Number_init }
/-- Number.told: self -/
def b_Number_told : Ss := (.cons (.ret (.tup (.cons (.str "number") (.cons (.fld (.var 0) 4) .nil))))
  .nil)
def f_Number_told : Fd := { np := 1, ns := 1, kind := none, dfl := [], fresh := false, body := b_Number_told }
/-- Maker.__init__: self, name, body -/
def b_Maker_init : Ss := (.cons (.ex (.call 6 (.cons (.var 1) .nil)))
  (.cons (.ex (.call 19 (.cons (.lst (.disp (.cons (.var 2) .nil))) .nil)))
  (.cons (.setr 1 (.var 1))
  (.cons (.setr 5 (.var 2))
  .nil))))
def f_Maker_init : Fd := { np := 2, ns := 3, kind := some 18, dfl := [], fresh := false, body := b_Maker_init }
/-- Maker.parts: self -/
def b_Maker_parts : Ss := (.cons (.retl (.disp (.cons (.fld (.var 0) 5) .nil)))
  .nil)
def f_Maker_parts : Fd := { np := 1, ns := 1, kind := none, dfl := [], fresh := true, body := b_Maker_parts }
/-- Maker.rebuilt: self, parts -/
def b_Maker_rebuilt : Ss := (.cons (.ret (.mk 18 (.cons (.fld (.var 0) 1) (.cons (.ix (.var 1) (.int 0)) .nil))))
  .nil)
def f_Maker_rebuilt : Fd := { np := 2, ns := 2, kind := none, dfl := [], fresh := false, body := b_Maker_rebuilt }
/-- Maker.binds: self -/
def b_Maker_binds : Ss := (.cons (.ret (.fld (.var 0) 1))
  .nil)
def f_Maker_binds : Fd := { np := 1, ns := 1, kind := none, dfl := [], fresh := false, body := b_Maker_binds }
/-- Maker.told: self -/
def b_Maker_told : Ss := (.cons (.ret (.tup (.cons (.str "maker") (.cons (.fld (.var 0) 1) (.cons (.meth (.fld (.var 0) 5) 3 .nil) .nil)))))
  .nil)
def f_Maker_told : Fd := { np := 1, ns := 1, kind := none, dfl := [], fresh := false, body := b_Maker_told }
/-- Give.__init__: self, maker, given -/
def b_Give_init : Ss := (.cons (.ex (.call 19 (.cons (.lst (.disp (.cons (.var 1) (.cons (.var 2) .nil)))) .nil)))
  (.cons (.setr 6 (.var 1))
  (.cons (.setr 7 (.var 2))
  .nil)))
def f_Give_init : Fd := { np := 2, ns := 3, kind := some 19, dfl := [], fresh := false, body := b_Give_init }
/-- Give.parts: self -/
def b_Give_parts : Ss := (.cons (.retl (.disp (.cons (.fld (.var 0) 6) (.cons (.fld (.var 0) 7) .nil))))
  .nil)
def f_Give_parts : Fd := { np := 1, ns := 1, kind := none, dfl := [], fresh := true, body := b_Give_parts }
/-- Give.rebuilt: self, parts -/
def b_Give_rebuilt : Ss := (.cons (.ret (.mk 19 (.cons (.ix (.var 1) (.int 0)) (.cons (.ix (.var 1) (.int 1)) .nil))))
  .nil)
def f_Give_rebuilt : Fd := { np := 2, ns := 2, kind := none, dfl := [], fresh := false, body := b_Give_rebuilt }
/-- Give.told: self -/
def b_Give_told : Ss := (.cons (.ret (.tup (.cons (.str "give") (.cons (.meth (.fld (.var 0) 6) 3 .nil) (.cons (.meth (.fld (.var 0) 7) 3 .nil) .nil)))))
  .nil)
def f_Give_told : Fd := { np := 1, ns := 1, kind := none, dfl := [], fresh := false, body := b_Give_told }
/-- Sum.__init__: self, sign, one, other -/
def b_Sum_init : Ss := (.cons (.ite (.or_ (.not_ (.v (.isi (.var 1) [.ty "str"]))) (.cmp .nin (.var 1) (.gc 2))) (.cons (.rse 1 (.cons (.str "a sum's sign is +, - or <") .nil))
  .nil) .nil)
  (.cons (.ex (.call 19 (.cons (.lst (.disp (.cons (.var 2) (.cons (.var 3) .nil)))) .nil)))
  (.cons (.setr 8 (.var 1))
  (.cons (.setr 9 (.var 2))
  (.cons (.setr 10 (.var 3))
  .nil)))))
def f_Sum_init : Fd := { np := 3, ns := 4, kind := some 20, dfl := [], fresh := false, body := b_Sum_init }
/-- Sum.parts: self -/
def b_Sum_parts : Ss := (.cons (.retl (.disp (.cons (.fld (.var 0) 9) (.cons (.fld (.var 0) 10) .nil))))
  .nil)
def f_Sum_parts : Fd := { np := 1, ns := 1, kind := none, dfl := [], fresh := true, body := b_Sum_parts }
/-- Sum.rebuilt: self, parts -/
def b_Sum_rebuilt : Ss := (.cons (.ret (.mk 20 (.cons (.fld (.var 0) 8) (.cons (.ix (.var 1) (.int 0)) (.cons (.ix (.var 1) (.int 1)) .nil)))))
  .nil)
def f_Sum_rebuilt : Fd := { np := 2, ns := 2, kind := none, dfl := [], fresh := false, body := b_Sum_rebuilt }
/-- Sum.told: self -/
def b_Sum_told : Ss := (.cons (.ret (.tup (.cons (.str "sum") (.cons (.fld (.var 0) 8) (.cons (.meth (.fld (.var 0) 9) 3 .nil) (.cons (.meth (.fld (.var 0) 10) 3 .nil) .nil))))))
  .nil)
def f_Sum_told : Fd := { np := 1, ns := 1, kind := none, dfl := [], fresh := false, body := b_Sum_told }
/-- Choice.__init__: self, asked, nought, other -/
def b_Choice_init : Ss := (.cons (.ex (.call 19 (.cons (.lst (.disp (.cons (.var 1) (.cons (.var 2) (.cons (.var 3) .nil))))) .nil)))
  (.cons (.setr 11 (.var 1))
  (.cons (.setr 12 (.var 2))
  (.cons (.setr 10 (.var 3))
  .nil))))
def f_Choice_init : Fd := { np := 3, ns := 4, kind := some 21, dfl := [], fresh := false, body := b_Choice_init }
/-- Choice.parts: self -/
def b_Choice_parts : Ss := (.cons (.retl (.disp (.cons (.fld (.var 0) 11) (.cons (.fld (.var 0) 12) (.cons (.fld (.var 0) 10) .nil)))))
  .nil)
def f_Choice_parts : Fd := { np := 1, ns := 1, kind := none, dfl := [], fresh := true, body := b_Choice_parts }
/-- Choice.rebuilt: self, parts -/
def b_Choice_rebuilt : Ss := (.cons (.ret (.mk 21 (.cons (.ix (.var 1) (.int 0)) (.cons (.ix (.var 1) (.int 1)) (.cons (.ix (.var 1) (.int 2)) .nil)))))
  .nil)
def f_Choice_rebuilt : Fd := { np := 2, ns := 2, kind := none, dfl := [], fresh := false, body := b_Choice_rebuilt }
/-- Choice.told: self -/
def b_Choice_told : Ss := (.cons (.ret (.tup (.cons (.str "choice") (.cons (.meth (.fld (.var 0) 11) 3 .nil) (.cons (.meth (.fld (.var 0) 12) 3 .nil) (.cons (.meth (.fld (.var 0) 10) 3 .nil) .nil))))))
  .nil)
def f_Choice_told : Fd := { np := 1, ns := 1, kind := none, dfl := [], fresh := false, body := b_Choice_told }
/-- Again.__init__: self, name, body -/
def b_Again_init : Ss := (.cons (.ex (.call 6 (.cons (.var 1) .nil)))
  (.cons (.ex (.call 19 (.cons (.lst (.disp (.cons (.var 2) .nil))) .nil)))
  (.cons (.setr 1 (.var 1))
  (.cons (.setr 5 (.var 2))
  .nil))))
def f_Again_init : Fd := { np := 2, ns := 3, kind := some 22, dfl := [], fresh := false, body := b_Again_init }
/-- Again.parts: self -/
def b_Again_parts : Ss := (.cons (.retl (.disp (.cons (.fld (.var 0) 5) .nil)))
  .nil)
def f_Again_parts : Fd := { np := 1, ns := 1, kind := none, dfl := [], fresh := true, body := b_Again_parts }
/-- Again.rebuilt: self, parts -/
def b_Again_rebuilt : Ss := (.cons (.ret (.mk 22 (.cons (.fld (.var 0) 1) (.cons (.ix (.var 1) (.int 0)) .nil))))
  .nil)
def f_Again_rebuilt : Fd := { np := 2, ns := 2, kind := none, dfl := [], fresh := false, body := b_Again_rebuilt }
/-- Again.binds: self -/
def b_Again_binds : Ss := (.cons (.ret (.fld (.var 0) 1))
  .nil)
def f_Again_binds : Fd := { np := 1, ns := 1, kind := none, dfl := [], fresh := false, body := b_Again_binds }
/-- Again.told: self -/
def b_Again_told : Ss := (.cons (.ret (.tup (.cons (.str "again") (.cons (.fld (.var 0) 1) (.cons (.meth (.fld (.var 0) 5) 3 .nil) .nil)))))
  .nil)
def f_Again_told : Fd := { np := 1, ns := 1, kind := none, dfl := [], fresh := false, body := b_Again_told }
/-- must_be_closed: term, names -/
def b_must_be_closed : Ss := (.cons (.set 1 (.lst (.meth (.var 0) 5 .nil)))
  (.cons (.ite (.cmp .gt (.bf .len (.cons (.var 1) .nil)) (.int 0)) (.cons .nev
  .nil) .nil)
  .nil))
def f_must_be_closed : Fd := { np := 1, ns := 2, kind := none, dfl := [], fresh := false, body := b_must_be_closed }
/-- Late.__init__: self, what, ties, places, deep -/
def b_Late_init : Ss := (.cons (.setr 13 (.var 1))
  (.cons (.setr 14 (.var 2))
  (.cons (.unp [3, 4] (.call 74 (.cons (.var 1) (.cons (.var 2) (.cons (.tup .nil) .nil)))))
  (.cons (.setr 15 (.var 3))
  (.cons (.setr 16 (.var 4))
  (.cons (.setr 17 (.ifx (.v (.call 73 (.cons (.var 3) (.cons (.var 4) .nil)))) .non (.call 75 (.cons (.var 1) (.cons (.var 2) (.cons (.tup .nil) .nil))))))
  .nil))))))
def f_Late_init : Fd := { np := 2, ns := 5, kind := some 23, dfl := [], fresh := false, body := b_Late_init }
/-- is_beyond: places, deep -/
def b_is_beyond : Ss := (.cons (.ret (.orv (.cmp .gt (.var 0) (.gc 3)) (.cmp .gt (.var 1) (.gc 4))))
  .nil)
def f_is_beyond : Fd := { np := 2, ns := 2, kind := none, dfl := [], fresh := false, body := b_is_beyond }
/-- measured: part, ties, hidden, places, deep, inner, more, down -/
def b_measured : Ss := (.cons (.ite (.v (.isi (.var 0) [.cls 16])) (.cons (.ite (.or_ (.cmp .in_ (.fld (.var 0) 1) (.var 2)) (.cmp .nin (.fld (.var 0) 1) (.var 1))) (.cons (.ret (.tup (.cons (.int 1) (.cons (.int 1) .nil))))
  .nil) .nil)
  (.cons (.ret (.tup (.cons (.fld (.ix (.var 1) (.fld (.var 0) 1)) 15) (.cons (.fld (.ix (.var 1) (.fld (.var 0) 1)) 16) .nil))))
  .nil)) .nil)
  (.cons (.ite (.v (.isn (.meth (.var 0) 2 .nil) true)) (.cons (.set 2 (.bin .add (.var 2) (.tup (.cons (.meth (.var 0) 2 .nil) .nil))))
  .nil) .nil)
  (.cons (.set 3 (.int 1))
  (.cons (.set 4 (.int 0))
  (.cons (.for_ (.n 5) (.v (.lst (.meth (.var 0) 0 .nil))) (.cons (.unp [6, 7] (.call 74 (.cons (.var 5) (.cons (.var 1) (.cons (.var 2) .nil)))))
  (.cons (.aug 3 .add (.var 6))
  (.cons (.set 4 (.bf .max2 (.cons (.var 4) (.cons (.var 7) .nil))))
  .nil))))
  (.cons (.ret (.tup (.cons (.var 3) (.cons (.bin .add (.var 4) (.int 1)) .nil))))
  .nil))))))
def f_measured : Fd := { np := 3, ns := 8, kind := none, dfl := [], fresh := false, body := b_measured }
/-- read_back: part, ties, hidden, parts, inner -/
def b_read_back : Ss := (.cons (.ite (.v (.isi (.var 0) [.cls 16])) (.cons (.ite (.or_ (.cmp .in_ (.fld (.var 0) 1) (.var 2)) (.cmp .nin (.fld (.var 0) 1) (.var 1))) (.cons (.ret (.var 0))
  .nil) .nil)
  (.cons (.ret (.fld (.ix (.var 1) (.fld (.var 0) 1)) 17))
  .nil)) .nil)
  (.cons (.ite (.v (.isn (.meth (.var 0) 2 .nil) true)) (.cons (.set 2 (.bin .add (.var 2) (.tup (.cons (.meth (.var 0) 2 .nil) .nil))))
  .nil) .nil)
  (.cons (.set 3 (.lst (.comp (.call 75 (.cons (.var 4) (.cons (.var 1) (.cons (.var 2) .nil)))) (.n 4) (.v (.lst (.meth (.var 0) 0 .nil))) [4] .nil)))
  (.cons (.ret (.meth (.var 0) 1 (.cons (.var 3) .nil)))
  .nil))))
def f_read_back : Fd := { np := 3, ns := 5, kind := none, dfl := [], fresh := false, body := b_read_back }
/-- term_of: told, word -/
def b_term_of : Ss := (.cons (.ite (.or_ (.not_ (.v (.isi (.var 0) [.ty "tuple"]))) (.or_ (.cmp .eq (.bf .len (.cons (.var 0) .nil)) (.int 0)) (.not_ (.v (.isi (.ix (.var 0) (.int 0)) [.ty "str"]))))) (.cons (.rse 1 (.cons (.str "no term tells so") .nil))
  .nil) .nil)
  (.cons (.set 1 (.ix (.var 0) (.int 0)))
  (.cons (.ite (.or_ (.cmp .nin (.var 1) (.gc 100)) (.cmp .ne (.bf .len (.cons (.var 0) .nil)) (.ix (.gc 100) (.var 1)))) (.cons (.rse 1 (.cons (.str "no term tells so") .nil))
  .nil) .nil)
  (.cons (.ite (.cmp .eq (.var 1) (.str "name")) (.cons (.ret (.mk 16 (.cons (.ix (.var 0) (.int 1)) .nil)))
  .nil) .nil)
  (.cons (.ite (.cmp .eq (.var 1) (.str "number")) (.cons (.ret (.mk 17 (.cons (.ix (.var 0) (.int 1)) .nil)))
  .nil) .nil)
  (.cons (.ite (.cmp .eq (.var 1) (.str "maker")) (.cons (.ret (.mk 18 (.cons (.ix (.var 0) (.int 1)) (.cons (.call 61 (.cons (.ix (.var 0) (.int 2)) .nil)) .nil))))
  .nil) .nil)
  (.cons (.ite (.cmp .eq (.var 1) (.str "give")) (.cons (.ret (.mk 19 (.cons (.call 61 (.cons (.ix (.var 0) (.int 1)) .nil)) (.cons (.call 61 (.cons (.ix (.var 0) (.int 2)) .nil)) .nil))))
  .nil) .nil)
  (.cons (.ite (.cmp .eq (.var 1) (.str "sum")) (.cons (.ret (.mk 20 (.cons (.ix (.var 0) (.int 1)) (.cons (.call 61 (.cons (.ix (.var 0) (.int 2)) .nil)) (.cons (.call 61 (.cons (.ix (.var 0) (.int 3)) .nil)) .nil)))))
  .nil) .nil)
  (.cons (.ite (.cmp .eq (.var 1) (.str "choice")) (.cons (.ret (.mk 21 (.cons (.call 61 (.cons (.ix (.var 0) (.int 1)) .nil)) (.cons (.call 61 (.cons (.ix (.var 0) (.int 2)) .nil)) (.cons (.call 61 (.cons (.ix (.var 0) (.int 3)) .nil)) .nil)))))
  .nil) .nil)
  (.cons (.ite (.cmp .eq (.var 1) (.str "again")) (.cons (.ret (.mk 22 (.cons (.ix (.var 0) (.int 1)) (.cons (.call 61 (.cons (.ix (.var 0) (.int 2)) .nil)) .nil))))
  .nil) .nil)
  (.cons (.ret (.mk 15 .nil))
  .nil)))))))))))
def f_term_of : Fd := { np := 1, ns := 2, kind := none, dfl := [], fresh := false, body := b_term_of }
/-- sum_of: sign, one, other -/
def b_sum_of : Ss := (.cons (.ite (.cmp .eq (.var 0) (.str "+")) (.cons (.ret (.bin .add (.var 1) (.var 2)))
  .nil) .nil)
  (.cons (.ite (.cmp .eq (.var 0) (.str "-")) (.cons (.ret (.bin .sub (.var 1) (.var 2)))
  .nil) .nil)
  (.cons (.ret (.bf .int1 (.cons (.cmp .lt (.var 1) (.var 2)) .nil)))
  .nil)))
def f_sum_of : Fd := { np := 3, ns := 3, kind := none, dfl := [], fresh := false, body := b_sum_of }
/-- GivenWait.__init__: self, late -/
def b_GivenWait_init : Ss := (.cons (.setr 18 (.var 1))
  .nil)
def f_GivenWait_init : Fd := { np := 1, ns := 2, kind := some 25, dfl := [], fresh := false, body := b_GivenWait_init }
/-- GivenWait.sort_for: self, at -/
def b_GivenWait_sort_for : Ss := (.cons (.ret (.ifx (.v (.isi (.var 1) [.cls 18])) (.str "take") .non))
  .nil)
def f_GivenWait_sort_for : Fd := { np := 2, ns := 2, kind := none, dfl := [], fresh := false, body := b_GivenWait_sort_for }
/-- GivenWait.after: self, at, ties -/
def b_GivenWait_after : Ss := (.cons (.setd 2 (.of (.var 2)))
  (.cons (.seto 2 (.fld (.var 1) 1) (.fld (.var 0) 18))
  (.cons (.ret (.tup (.cons (.fld (.var 1) 5) (.cons (.frz 2) (.cons (.tup .nil) .nil)))))
  .nil)))
def f_GivenWait_after : Fd := { np := 3, ns := 3, kind := none, dfl := [], fresh := false, body := b_GivenWait_after }
/-- GivenWait.grown: self, places, deep -/
def b_GivenWait_grown : Ss := (.cons (.ret (.tup (.cons (.bin .add (.bin .add (.var 1) (.fld (.fld (.var 0) 18) 15)) (.int 1)) (.cons (.bin .add (.bf .max2 (.cons (.var 2) (.cons (.fld (.fld (.var 0) 18) 16) .nil))) (.int 1)) .nil))))
  .nil)
def f_GivenWait_grown : Fd := { np := 3, ns := 3, kind := none, dfl := [], fresh := false, body := b_GivenWait_grown }
/-- GivenWait.around: self, full -/
def b_GivenWait_around : Ss := (.cons (.ret (.mk 19 (.cons (.var 1) (.cons (.fld (.fld (.var 0) 18) 17) .nil))))
  .nil)
def f_GivenWait_around : Fd := { np := 2, ns := 2, kind := none, dfl := [], fresh := false, body := b_GivenWait_around }
/-- OtherWait.__init__: self, sign, late -/
def b_OtherWait_init : Ss := (.cons (.setr 8 (.var 1))
  (.cons (.setr 18 (.var 2))
  .nil))
def f_OtherWait_init : Fd := { np := 2, ns := 3, kind := some 26, dfl := [], fresh := false, body := b_OtherWait_init }
/-- OtherWait.sort_for: self, at -/
def b_OtherWait_sort_for : Ss := (.cons (.ret (.ifx (.v (.isi (.var 1) [.cls 17])) (.str "next") .non))
  .nil)
def f_OtherWait_sort_for : Fd := { np := 2, ns := 2, kind := none, dfl := [], fresh := false, body := b_OtherWait_sort_for }
/-- OtherWait.after: self, at, ties -/
def b_OtherWait_after : Ss := (.cons (.ret (.tup (.cons (.fld (.fld (.var 0) 18) 13) (.cons (.fld (.fld (.var 0) 18) 14) (.cons (.tup (.cons (.mk 27 (.cons (.fld (.var 0) 8) (.cons (.fld (.var 1) 4) .nil))) .nil)) .nil)))))
  .nil)
def f_OtherWait_after : Fd := { np := 3, ns := 3, kind := none, dfl := [], fresh := false, body := b_OtherWait_after }
/-- OtherWait.grown: self, places, deep -/
def b_OtherWait_grown : Ss := (.cons (.ret (.tup (.cons (.bin .add (.bin .add (.var 1) (.fld (.fld (.var 0) 18) 15)) (.int 1)) (.cons (.bin .add (.bf .max2 (.cons (.var 2) (.cons (.fld (.fld (.var 0) 18) 16) .nil))) (.int 1)) .nil))))
  .nil)
def f_OtherWait_grown : Fd := { np := 3, ns := 3, kind := none, dfl := [], fresh := false, body := b_OtherWait_grown }
/-- OtherWait.around: self, full -/
def b_OtherWait_around : Ss := (.cons (.ret (.mk 20 (.cons (.fld (.var 0) 8) (.cons (.var 1) (.cons (.fld (.fld (.var 0) 18) 17) .nil)))))
  .nil)
def f_OtherWait_around : Fd := { np := 2, ns := 2, kind := none, dfl := [], fresh := false, body := b_OtherWait_around }
/-- NumberWait.__init__: self, sign, number -/
def b_NumberWait_init : Ss := (.cons (.setr 8 (.var 1))
  (.cons (.setr 4 (.var 2))
  .nil))
def f_NumberWait_init : Fd := { np := 2, ns := 3, kind := some 27, dfl := [], fresh := false, body := b_NumberWait_init }
/-- NumberWait.sort_for: self, at -/
def b_NumberWait_sort_for : Ss := (.cons (.ret (.ifx (.v (.isi (.var 1) [.cls 17])) (.str "sum") .non))
  .nil)
def f_NumberWait_sort_for : Fd := { np := 2, ns := 2, kind := none, dfl := [], fresh := false, body := b_NumberWait_sort_for }
/-- NumberWait.after: self, at, ties -/
def b_NumberWait_after : Ss := (.cons (.ret (.tup (.cons (.mk 17 (.cons (.call 62 (.cons (.fld (.var 0) 8) (.cons (.fld (.var 0) 4) (.cons (.fld (.var 1) 4) .nil)))) .nil)) (.cons (.dic .emp) (.cons (.tup .nil) .nil)))))
  .nil)
def f_NumberWait_after : Fd := { np := 3, ns := 3, kind := none, dfl := [], fresh := false, body := b_NumberWait_after }
/-- NumberWait.grown: self, places, deep -/
def b_NumberWait_grown : Ss := (.cons (.ret (.tup (.cons (.bin .add (.var 1) (.int 2)) (.cons (.bin .add (.var 2) (.int 1)) .nil))))
  .nil)
def f_NumberWait_grown : Fd := { np := 3, ns := 3, kind := none, dfl := [], fresh := false, body := b_NumberWait_grown }
/-- NumberWait.around: self, full -/
def b_NumberWait_around : Ss := (.cons (.ret (.mk 20 (.cons (.fld (.var 0) 8) (.cons (.mk 17 (.cons (.fld (.var 0) 4) .nil)) (.cons (.var 1) .nil)))))
  .nil)
def f_NumberWait_around : Fd := { np := 2, ns := 2, kind := none, dfl := [], fresh := false, body := b_NumberWait_around }
/-- ChoiceWait.__init__: self, nought, other -/
def b_ChoiceWait_init : Ss := (.cons (.setr 12 (.var 1))
  (.cons (.setr 10 (.var 2))
  .nil))
def f_ChoiceWait_init : Fd := { np := 2, ns := 3, kind := some 28, dfl := [], fresh := false, body := b_ChoiceWait_init }
/-- ChoiceWait.sort_for: self, at -/
def b_ChoiceWait_sort_for : Ss := (.cons (.ret (.ifx (.v (.isi (.var 1) [.cls 17])) (.str "choose") .non))
  .nil)
def f_ChoiceWait_sort_for : Fd := { np := 2, ns := 2, kind := none, dfl := [], fresh := false, body := b_ChoiceWait_sort_for }
/-- ChoiceWait.after: self, at, ties, chosen -/
def b_ChoiceWait_after : Ss := (.cons (.set 3 (.ifx (.cmp .eq (.fld (.var 1) 4) (.int 0)) (.fld (.var 0) 12) (.fld (.var 0) 10)))
  (.cons (.ret (.tup (.cons (.fld (.var 3) 13) (.cons (.fld (.var 3) 14) (.cons (.tup .nil) .nil)))))
  .nil))
def f_ChoiceWait_after : Fd := { np := 3, ns := 4, kind := none, dfl := [], fresh := false, body := b_ChoiceWait_after }
/-- ChoiceWait.grown: self, places, deep, deepest -/
def b_ChoiceWait_grown : Ss := (.cons (.set 3 (.bf .max3 (.cons (.var 2) (.cons (.fld (.fld (.var 0) 12) 16) (.cons (.fld (.fld (.var 0) 10) 16) .nil)))))
  (.cons (.ret (.tup (.cons (.bin .add (.bin .add (.bin .add (.var 1) (.fld (.fld (.var 0) 12) 15)) (.fld (.fld (.var 0) 10) 15)) (.int 1)) (.cons (.bin .add (.var 3) (.int 1)) .nil))))
  .nil))
def f_ChoiceWait_grown : Fd := { np := 3, ns := 4, kind := none, dfl := [], fresh := false, body := b_ChoiceWait_grown }
/-- ChoiceWait.around: self, full -/
def b_ChoiceWait_around : Ss := (.cons (.ret (.mk 21 (.cons (.var 1) (.cons (.fld (.fld (.var 0) 12) 17) (.cons (.fld (.fld (.var 0) 10) 17) .nil)))))
  .nil)
def f_ChoiceWait_around : Fd := { np := 2, ns := 2, kind := none, dfl := [], fresh := false, body := b_ChoiceWait_around }
/-- State.__init__: self, at, ties, pile -/
def b_State_init : Ss := (.cons (.setr 19 (.var 1))
  (.cons (.setr 14 (.var 2))
  (.cons (.setr 20 (.var 3))
  .nil)))
def f_State_init : Fd := { np := 3, ns := 4, kind := some 29, dfl := [], fresh := false, body := b_State_init }
/-- State.next_sort: self -/
def b_State_next_sort : Ss := (.cons (.ite (.v (.isi (.fld (.var 0) 19) [.cls 16])) (.cons (.ret (.str "look"))
  .nil) .nil)
  (.cons (.ite (.v (.isi (.fld (.var 0) 19) [.cls 22])) (.cons (.ret (.str "turn"))
  .nil) .nil)
  (.cons (.ite (.or_ (.v (.isi (.fld (.var 0) 19) [.cls 19])) (.or_ (.v (.isi (.fld (.var 0) 19) [.cls 20])) (.v (.isi (.fld (.var 0) 19) [.cls 21])))) (.cons (.ret (.str "open"))
  .nil) .nil)
  (.cons (.ite (.cmp .eq (.bf .len (.cons (.fld (.var 0) 20) .nil)) (.int 0)) (.cons (.ret .non)
  .nil) .nil)
  (.cons (.ret (.meth (.ix (.fld (.var 0) 20) (.neg (.int 1))) 12 (.cons (.fld (.var 0) 19) .nil)))
  .nil)))))
def f_State_next_sort : Fd := { np := 1, ns := 1, kind := none, dfl := [], fresh := false, body := b_State_next_sort }
/-- State.how: self -/
def b_State_how : Ss := (.cons (.ite (.v (.isn (.meth (.var 0) 16 .nil) true)) (.cons (.ret (.str "goes"))
  .nil) .nil)
  (.cons (.ite (.and_ (.cmp .eq (.bf .len (.cons (.fld (.var 0) 20) .nil)) (.int 0)) (.v (.isi (.fld (.var 0) 19) [.cls 17]))) (.cons (.ret (.str "number"))
  .nil) .nil)
  (.cons (.ite (.and_ (.cmp .eq (.bf .len (.cons (.fld (.var 0) 20) .nil)) (.int 0)) (.v (.isi (.fld (.var 0) 19) [.cls 18]))) (.cons (.ret (.str "maker"))
  .nil) .nil)
  (.cons (.ret (.str "stuck"))
  .nil))))
def f_State_how : Fd := { np := 1, ns := 1, kind := none, dfl := [], fresh := false, body := b_State_how }
/-- State.step: self, sort, deed -/
def b_State_step : Ss := (.cons (.set 1 (.meth (.var 0) 16 .nil))
  (.cons (.ite (.v (.isn (.var 1) false)) (.cons (.rse 4 (.cons (.str "it doesn't go on") .nil))
  .nil) .nil)
  (.cons (.set 2 (.ix (.gc 101) (.var 1)))
  (.cons (.ret (.callv (.var 2) (.cons (.var 0) .nil)))
  .nil))))
def f_State_step : Fd := { np := 1, ns := 3, kind := none, dfl := [], fresh := false, body := b_State_step }
/-- State.came: self -/
def b_State_came : Ss := (.cons (.ite (.cmp .eq (.meth (.var 0) 17 .nil) (.str "number")) (.cons (.ret (.fld (.fld (.var 0) 19) 4))
  .nil) .nil)
  (.cons (.ret .non)
  .nil))
def f_State_came : Fd := { np := 1, ns := 1, kind := none, dfl := [], fresh := false, body := b_State_came }
/-- State.height: self -/
def b_State_height : Ss := (.cons (.ret (.bf .len (.cons (.fld (.var 0) 20) .nil)))
  .nil)
def f_State_height : Fd := { np := 1, ns := 1, kind := none, dfl := [], fresh := false, body := b_State_height }
/-- State.shown: self, places, deep, waiting, full -/
def b_State_shown : Ss := (.cons (.unp [1, 2] (.call 74 (.cons (.fld (.var 0) 19) (.cons (.fld (.var 0) 14) (.cons (.tup .nil) .nil)))))
  (.cons (.for_ (.n 3) (.rev (.fld (.var 0) 20)) (.cons (.unp [1, 2] (.meth (.var 3) 14 (.cons (.var 1) (.cons (.var 2) .nil))))
  .nil))
  (.cons (.ite (.v (.call 73 (.cons (.var 1) (.cons (.var 2) .nil)))) (.cons (.rse 5 (.cons (.str "the term read back would be too great") .nil))
  .nil) .nil)
  (.cons (.set 4 (.call 75 (.cons (.fld (.var 0) 19) (.cons (.fld (.var 0) 14) (.cons (.tup .nil) .nil)))))
  (.cons (.for_ (.n 3) (.rev (.fld (.var 0) 20)) (.cons (.set 4 (.meth (.var 3) 15 (.cons (.var 4) .nil)))
  .nil))
  (.cons (.ret (.var 4))
  .nil))))))
def f_State_shown : Fd := { np := 1, ns := 5, kind := none, dfl := [], fresh := false, body := b_State_shown }
/-- opened: state, at, ties -/
def b_opened : Ss := (.cons (.set 1 (.fld (.var 0) 19))
  (.cons (.set 2 (.fld (.var 0) 14))
  (.cons (.ite (.v (.isi (.var 1) [.cls 19])) (.cons (.ret (.mk 29 (.cons (.fld (.var 1) 6) (.cons (.var 2) (.cons (.bin .add (.fld (.var 0) 20) (.tup (.cons (.mk 25 (.cons (.mk 23 (.cons (.fld (.var 1) 7) (.cons (.var 2) .nil))) .nil)) .nil))) .nil)))))
  .nil) .nil)
  (.cons (.ite (.v (.isi (.var 1) [.cls 20])) (.cons (.ret (.mk 29 (.cons (.fld (.var 1) 9) (.cons (.var 2) (.cons (.bin .add (.fld (.var 0) 20) (.tup (.cons (.mk 26 (.cons (.fld (.var 1) 8) (.cons (.mk 23 (.cons (.fld (.var 1) 10) (.cons (.var 2) .nil))) .nil))) .nil))) .nil)))))
  .nil) .nil)
  (.cons (.ret (.mk 29 (.cons (.fld (.var 1) 11) (.cons (.var 2) (.cons (.bin .add (.fld (.var 0) 20) (.tup (.cons (.mk 28 (.cons (.mk 23 (.cons (.fld (.var 1) 12) (.cons (.var 2) .nil))) (.cons (.mk 23 (.cons (.fld (.var 1) 10) (.cons (.var 2) .nil))) .nil))) .nil))) .nil)))))
  .nil)))))
def f_opened : Fd := { np := 1, ns := 3, kind := none, dfl := [], fresh := false, body := b_opened }
/-- looked: state, late -/
def b_looked : Ss := (.cons (.set 1 (.ix (.fld (.var 0) 14) (.fld (.fld (.var 0) 19) 1)))
  (.cons (.ret (.mk 29 (.cons (.fld (.var 1) 13) (.cons (.fld (.var 1) 14) (.cons (.fld (.var 0) 20) .nil)))))
  .nil))
def f_looked : Fd := { np := 1, ns := 2, kind := none, dfl := [], fresh := false, body := b_looked }
/-- turned: state, ties -/
def b_turned : Ss := (.cons (.setd 1 (.of (.fld (.var 0) 14)))
  (.cons (.seto 1 (.fld (.fld (.var 0) 19) 1) (.mk 23 (.cons (.fld (.var 0) 19) (.cons (.fld (.var 0) 14) .nil))))
  (.cons (.ret (.mk 29 (.cons (.fld (.fld (.var 0) 19) 5) (.cons (.frz 1) (.cons (.fld (.var 0) 20) .nil)))))
  .nil)))
def f_turned : Fd := { np := 1, ns := 2, kind := none, dfl := [], fresh := false, body := b_turned }
/-- went_on: state, at, ties, waits -/
def b_went_on : Ss := (.cons (.unp [1, 2, 3] (.meth (.ix (.fld (.var 0) 20) (.neg (.int 1))) 13 (.cons (.fld (.var 0) 19) (.cons (.fld (.var 0) 14) .nil))))
  (.cons (.ret (.mk 29 (.cons (.var 1) (.cons (.var 2) (.cons (.bin .add (.sl (.fld (.var 0) 20) .n (.e (.neg (.int 1)))) (.var 3)) .nil)))))
  .nil))
def f_went_on : Fd := { np := 1, ns := 4, kind := none, dfl := [], fresh := false, body := b_went_on }
/-- first_state: term -/
def b_first_state : Ss := (.cons (.ex (.call 55 (.cons (.var 0) .nil)))
  (.cons (.ret (.mk 29 (.cons (.var 0) (.cons (.dic .emp) (.cons (.tup .nil) .nil)))))
  .nil))
def f_first_state : Fd := { np := 1, ns := 1, kind := none, dfl := [], fresh := false, body := b_first_state }
/-- machine_run: term, most, state, tally, sort, done -/
def b_machine_run : Ss := (.cons (.set 2 (.call 111 (.cons (.var 0) .nil)))
  (.cons (.setd 3 .emp)
  (.cons (.for_ (.n 4) (.v (.gc 5)) (.cons (.seto 3 (.var 4) (.int 0))
  .nil))
  (.cons (.set 5 (.int 0))
  (.cons (.whl (.and_ (.cmp .lt (.var 5) (.var 1)) (.v (.isn (.meth (.var 2) 16 .nil) true))) (.cons (.augo 3 (.meth (.var 2) 16 .nil) .add (.int 1))
  (.cons (.set 2 (.meth (.var 2) 18 .nil))
  (.cons (.aug 5 .add (.int 1))
  .nil))))
  (.cons (.ret (.tup (.cons (.var 2) (.cons (.frz 3) (.cons (.var 5) .nil)))))
  .nil))))))
def f_machine_run : Fd := { np := 2, ns := 6, kind := none, dfl := [], fresh := false, body := b_machine_run }
/-- tally_with: sorts, tally, sort -/
def b_tally_with : Ss := (.cons (.setd 1 .emp)
  (.cons (.for_ (.n 2) (.v (.gc 5)) (.cons (.seto 1 (.var 2) (.bm .count (.var 0) (.cons (.var 2) .nil)))
  .nil))
  (.cons (.reto 1)
  .nil)))
def f_tally_with : Fd := { np := 1, ns := 3, kind := none, dfl := [], fresh := true, body := b_tally_with }
/-- Bench.__init__: self, term -/
def b_Bench_init : Ss := (.cons (.setf (.var 0) 32 (.var 1))
  (.cons (.setf (.var 0) 37 (.hlst (.disp (.cons (.call 111 (.cons (.var 1) .nil)) .nil))))
  (.cons (.setf (.var 0) 38 (.hlst (.disp .nil)))
  (.cons (.setf (.var 0) 39 (.int 0))
  (.cons (.setf (.var 0) 40 (.hdic .emp))
  .nil)))))
def f_Bench_init : Fd := { np := 2, ns := 2, kind := none, dfl := [], fresh := false, body := b_Bench_init }
/-- Bench.forth: self, many, ahead -/
def b_Bench_forth : Ss := (.cons (.set 2 (.fld (.var 0) 39))
  (.cons (.whl (.and_ (.cmp .lt (.fld (.var 0) 39) (.bin .add (.var 2) (.var 1))) (.v (.meth (.var 0) 60 .nil))) (.cons (.augf (.var 0) 39 .add (.int 1))
  .nil))
  (.cons (.ret (.bin .sub (.fld (.var 0) 39) (.var 2)))
  .nil)))
def f_Bench_forth : Fd := { np := 2, ns := 3, kind := none, dfl := [(.int 1)], fresh := false, body := b_Bench_forth }
/-- Bench.is_next: self, state, sort -/
def b_Bench_is_next : Ss := (.cons (.ite (.cmp .lt (.bin .add (.fld (.var 0) 39) (.int 1)) (.bf .len (.cons (.fld (.var 0) 37) .nil))) (.cons (.ret (.bl true))
  .nil) .nil)
  (.cons (.ite (.cmp .ge (.fld (.var 0) 39) (.gc 11)) (.cons (.ret (.bl false))
  .nil) .nil)
  (.cons (.set 1 (.ix (.fld (.var 0) 37) (.fld (.var 0) 39)))
  (.cons (.set 2 (.meth (.var 1) 16 .nil))
  (.cons (.ite (.v (.isn (.var 2) false)) (.cons (.ret (.bl false))
  .nil) .nil)
  (.cons (.ex (.mm .append (.fld (.var 0) 37) (.cons (.meth (.var 1) 18 .nil) .nil)))
  (.cons (.ex (.mm .append (.fld (.var 0) 38) (.cons (.var 2) .nil)))
  (.cons (.ret (.bl true))
  .nil))))))))
def f_Bench_is_next : Fd := { np := 1, ns := 3, kind := none, dfl := [], fresh := false, body := b_Bench_is_next }
/-- Bench.back: self, many, gone -/
def b_Bench_back : Ss := (.cons (.set 2 (.bf .min2 (.cons (.var 1) (.cons (.fld (.var 0) 39) .nil))))
  (.cons (.augf (.var 0) 39 .sub (.var 2))
  (.cons (.ret (.var 2))
  .nil)))
def f_Bench_back : Fd := { np := 2, ns := 3, kind := none, dfl := [(.int 1)], fresh := false, body := b_Bench_back }
/-- Bench.done: self -/
def b_Bench_done : Ss := (.cons (.ret (.fld (.var 0) 39))
  .nil)
def f_Bench_done : Fd := { np := 1, ns := 1, kind := none, dfl := [], fresh := false, body := b_Bench_done }
/-- Bench.how: self -/
def b_Bench_how : Ss := (.cons (.ret (.meth (.ix (.fld (.var 0) 37) (.fld (.var 0) 39)) 17 .nil))
  .nil)
def f_Bench_how : Fd := { np := 1, ns := 1, kind := none, dfl := [], fresh := false, body := b_Bench_how }
/-- Bench.came: self -/
def b_Bench_came : Ss := (.cons (.ret (.meth (.ix (.fld (.var 0) 37) (.fld (.var 0) 39)) 19 .nil))
  .nil)
def f_Bench_came : Fd := { np := 1, ns := 1, kind := none, dfl := [], fresh := false, body := b_Bench_came }
/-- Bench.height: self -/
def b_Bench_height : Ss := (.cons (.ret (.meth (.ix (.fld (.var 0) 37) (.fld (.var 0) 39)) 20 .nil))
  .nil)
def f_Bench_height : Fd := { np := 1, ns := 1, kind := none, dfl := [], fresh := false, body := b_Bench_height }
/-- Bench.shown: self -/
def b_Bench_shown : Ss := (.cons (.ret (.meth (.ix (.fld (.var 0) 37) (.fld (.var 0) 39)) 21 .nil))
  .nil)
def f_Bench_shown : Fd := { np := 1, ns := 1, kind := none, dfl := [], fresh := false, body := b_Bench_shown }
/-- Bench.tally: self -/
def b_Bench_tally : Ss := (.cons (.retd (.call 116 (.cons (.lst (.sl (.fld (.var 0) 38) .n (.e (.fld (.var 0) 39)))) .nil)))
  .nil)
def f_Bench_tally : Fd := { np := 1, ns := 1, kind := none, dfl := [], fresh := true, body := b_Bench_tally }
/-- Bench.mark: self, name -/
def b_Bench_mark : Ss := (.cons (.ite (.not_ (.v (.call 4 (.cons (.var 1) .nil)))) (.cons (.rse 2 (.cons (.str "a mark is a name") .nil))
  .nil) .nil)
  (.cons (.seti (.fld (.var 0) 40) (.var 1) (.fld (.var 0) 39))
  .nil))
def f_Bench_mark : Fd := { np := 2, ns := 2, kind := none, dfl := [], fresh := false, body := b_Bench_mark }
/-- Bench.to: self, name -/
def b_Bench_to : Ss := (.cons (.ite (.or_ (.not_ (.v (.call 4 (.cons (.var 1) .nil)))) (.cmp .nin (.var 1) (.fld (.var 0) 40))) (.cons (.rse 8 (.cons (.str "no such mark") .nil))
  .nil) .nil)
  (.cons (.setf (.var 0) 39 (.ix (.fld (.var 0) 40) (.var 1)))
  (.cons (.ret (.fld (.var 0) 39))
  .nil)))
def f_Bench_to : Fd := { np := 2, ns := 2, kind := none, dfl := [], fresh := false, body := b_Bench_to }
/-- Bench.marks: self, found, name -/
def b_Bench_marks : Ss := (.cons (.setd 1 .emp)
  (.cons (.for_ (.n 2) (.v (.lst (.srtd (.fld (.var 0) 40)))) (.cons (.seto 1 (.var 2) (.ix (.fld (.var 0) 40) (.var 2)))
  .nil))
  (.cons (.reto 1)
  .nil)))
def f_Bench_marks : Fd := { np := 1, ns := 3, kind := none, dfl := [], fresh := true, body := b_Bench_marks }
/-- Bench.twin: self, other -/
def b_Bench_twin : Ss := (.cons (.set 1 (.mkh 40 (.cons (.fld (.var 0) 32) .nil)))
  (.cons (.setf (.var 1) 37 (.hlst (.of (.fld (.var 0) 37))))
  (.cons (.setf (.var 1) 38 (.hlst (.of (.fld (.var 0) 38))))
  (.cons (.setf (.var 1) 39 (.fld (.var 0) 39))
  (.cons (.setf (.var 1) 40 (.hdic (.of (.fld (.var 0) 40))))
  (.cons (.ret (.var 1))
  .nil))))))
def f_Bench_twin : Fd := { np := 1, ns := 2, kind := none, dfl := [], fresh := false, body := b_Bench_twin }
/-- _law_state: _law_script, _law_cells, _law_cell -/
def b__law_state : Ss := (.cons (.set 1 (.hlst (.comp (.bf .abs (.cons (.var 2) .nil)) (.n 2) (.v (.var 0)) [2] .nil)))
  (.cons (.ite (.cmp .eq (.var 1) (.lst (.disp .nil))) (.cons (.set 1 (.hlst (.disp (.cons (.int 1) .nil))))
  .nil) .nil)
  (.cons (.ret (.hlst (.disp (.cons (.var 1) (.cons (.int 0) (.cons (.int 1) .nil))))))
  .nil)))
def f__law_state : Fd := { np := 1, ns := 3, kind := none, dfl := [], fresh := false, body := b__law_state }
/-- _law_draw: _law_state_here, _law_many, _law_cells, _law_at, _law_cell -/
def b__law_draw : Ss := (.cons (.set 2 (.ix (.var 0) (.int 0)))
  (.cons (.set 3 (.bin .mod (.ix (.var 0) (.int 1)) (.bf .len (.cons (.var 2) .nil))))
  (.cons (.set 4 (.ix (.var 2) (.var 3)))
  (.cons (.ite (.cmp .ge (.var 4) (.int 1000000000000000000)) (.cons (.seti (.var 2) (.var 3) (.bin .fdiv (.var 4) (.var 1)))
  (.cons (.ret (.bin .mod (.var 4) (.var 1)))
  .nil)) .nil)
  (.cons (.seti (.var 0) (.int 1) (.bin .add (.ix (.var 0) (.int 1)) (.int 1)))
  (.cons (.seti (.var 0) (.int 2) (.bin .mod (.bin .add (.bin .add (.bin .mul (.ix (.var 0) (.int 2)) (.int 48271)) (.var 4)) (.int 12345)) (.int 2147483647)))
  (.cons (.ret (.bin .mod (.bin .fdiv (.bin .mod (.bin .mul (.ix (.var 0) (.int 2)) (.ix (.var 0) (.int 2))) (.int 2147483629)) (.int 16)) (.var 1)))
  .nil)))))))
def f__law_draw : Fd := { np := 2, ns := 5, kind := none, dfl := [], fresh := false, body := b__law_draw }
/-- _law_name: _law_state_here, _law_names, _law_way, _law_letters, _law_k -/
def b__law_name : Ss := (.cons (.set 2 (.call 301 (.cons (.var 0) (.cons (.int 10) .nil))))
  (.cons (.ite (.and_ (.cmp .ne (.var 1) (.lst (.disp .nil))) (.cmp .lt (.var 2) (.int 4))) (.cons (.ret (.ix (.var 1) (.call 301 (.cons (.var 0) (.cons (.bf .len (.cons (.var 1) .nil)) .nil)))))
  .nil) .nil)
  (.cons (.ite (.cmp .eq (.var 2) (.int 4)) (.cons (.ret (.ix (.lst (.disp (.cons (.str "done") (.cons (.str "to") (.cons (.str "mark") (.cons (.str "forth") (.cons (.str "back") (.cons (.str "marks") (.cons (.str "shown") (.cons (.str "tally") .nil)))))))))) (.call 301 (.cons (.var 0) (.cons (.int 8) .nil)))))
  .nil) .nil)
  (.cons (.set 3 (.str "abcdefghijklmnopqrstuvwxyz"))
  (.cons (.ret (.bm .join (.str "") (.cons (.lst (.comp (.ix (.var 3) (.call 301 (.cons (.var 0) (.cons (.int 26) .nil)))) (.n 4) (.rng1 (.bin .add (.int 1) (.call 301 (.cons (.var 0) (.cons (.int 8) .nil))))) [4] .nil)) .nil)))
  .nil)))))
def f__law_name : Fd := { np := 2, ns := 5, kind := none, dfl := [], fresh := false, body := b__law_name }
/-- _law_number: _law_state_here, _law_way, _law_number_here, _law_k -/
def b__law_number : Ss := (.cons (.set 1 (.call 301 (.cons (.var 0) (.cons (.int 6) .nil))))
  (.cons (.ite (.cmp .lt (.var 1) (.int 2)) (.cons (.ret (.var 1))
  .nil) .nil)
  (.cons (.set 2 (.call 301 (.cons (.var 0) (.cons (.int 100) .nil))))
  (.cons (.for_ (.n 3) (.rng1 (.ix (.lst (.disp (.cons (.int 0) (.cons (.int 0) (.cons (.int 1) (.cons (.int 2) (.cons (.int 38) .nil))))))) (.bin .sub (.var 1) (.int 1)))) (.cons (.set 2 (.bin .add (.bin .mul (.var 2) (.int 10)) (.call 301 (.cons (.var 0) (.cons (.int 10) .nil)))))
  .nil))
  (.cons (.ret (.bin .mul (.var 2) (.ix (.lst (.disp (.cons (.int 1) (.cons (.neg (.int 1)) .nil)))) (.call 301 (.cons (.var 0) (.cons (.int 2) .nil))))))
  .nil)))))
def f__law_number : Fd := { np := 1, ns := 4, kind := none, dfl := [], fresh := false, body := b__law_number }
/-- _law_leaf: _law_state_here, _law_names, _law_way -/
def b__law_leaf : Ss := (.cons (.set 2 (.call 301 (.cons (.var 0) (.cons (.int 8) .nil))))
  (.cons (.ite (.and_ (.cmp .ne (.var 1) (.lst (.disp .nil))) (.cmp .lt (.var 2) (.int 5))) (.cons (.ret (.tup (.cons (.str "name") (.cons (.ix (.var 1) (.call 301 (.cons (.var 0) (.cons (.bf .len (.cons (.var 1) .nil)) .nil)))) .nil))))
  .nil) .nil)
  (.cons (.ite (.cmp .eq (.var 2) (.int 7)) (.cons (.ret (.tup (.cons (.str "open") .nil)))
  .nil) .nil)
  (.cons (.ret (.tup (.cons (.str "number") (.cons (.call 303 (.cons (.var 0) .nil)) .nil))))
  .nil))))
def f__law_leaf : Fd := { np := 2, ns := 3, kind := none, dfl := [], fresh := false, body := b__law_leaf }
/-- _law_any: _law_state_here, _law_names, _law_deep, _law_way, _law_name_here, _law_sign, _law_parts, _law_k -/
def b__law_any : Ss := (.cons (.set 3 (.call 301 (.cons (.var 0) (.cons (.int 12) .nil))))
  (.cons (.ite (.or_ (.cmp .lt (.var 2) (.int 2)) (.cmp .lt (.var 3) (.int 3))) (.cons (.ret (.call 304 (.cons (.var 0) (.cons (.var 1) .nil))))
  .nil) .nil)
  (.cons (.ite (.cmp .lt (.var 3) (.int 6)) (.cons (.set 4 (.call 302 (.cons (.var 0) (.cons (.var 1) .nil))))
  (.cons (.ret (.tup (.cons (.ix (.lst (.disp (.cons (.str "maker") (.cons (.str "maker") (.cons (.str "again") .nil))))) (.bin .sub (.var 3) (.int 3))) (.cons (.var 4) (.cons (.call 305 (.cons (.var 0) (.cons (.lst (.cat (.var 1) (.lst (.disp (.cons (.var 4) .nil))))) (.cons (.bin .sub (.var 2) (.int 1)) .nil)))) .nil)))))
  .nil)) .nil)
  (.cons (.ite (.cmp .lt (.var 3) (.int 9)) (.cons (.ret (.tup (.cons (.str "give") (.cons (.call 305 (.cons (.var 0) (.cons (.var 1) (.cons (.bin .sub (.var 2) (.int 1)) .nil)))) (.cons (.call 305 (.cons (.var 0) (.cons (.var 1) (.cons (.bin .sub (.var 2) (.int 1)) .nil)))) .nil)))))
  .nil) .nil)
  (.cons (.ite (.cmp .lt (.var 3) (.int 11)) (.cons (.set 5 (.ix (.lst (.disp (.cons (.str "+") (.cons (.str "-") (.cons (.str "<") .nil))))) (.call 301 (.cons (.var 0) (.cons (.int 3) .nil)))))
  (.cons (.ret (.tup (.cons (.str "sum") (.cons (.var 5) (.cons (.call 305 (.cons (.var 0) (.cons (.var 1) (.cons (.bin .sub (.var 2) (.int 1)) .nil)))) (.cons (.call 305 (.cons (.var 0) (.cons (.var 1) (.cons (.bin .sub (.var 2) (.int 1)) .nil)))) .nil))))))
  .nil)) .nil)
  (.cons (.set 6 (.lst (.comp (.call 305 (.cons (.var 0) (.cons (.var 1) (.cons (.bin .sub (.var 2) (.int 1)) .nil)))) (.n 7) (.rng1 (.int 3)) [7] .nil)))
  (.cons (.ret (.tup (.cons (.str "choice") (.cons (.ix (.var 6) (.int 0)) (.cons (.ix (.var 6) (.int 1)) (.cons (.ix (.var 6) (.int 2)) .nil))))))
  .nil)))))))
def f__law_any : Fd := { np := 3, ns := 8, kind := none, dfl := [], fresh := false, body := b__law_any }
/-- _law_doubled: _law_name_here, _law_count, _law_levels, _law_names, _law_told, _law_k, _law_more -/
def b__law_doubled : Ss := (.cons (.set 3 (.lst (.disp (.cons (.var 0) (.cons (.var 1) .nil)))))
  (.cons (.set 4 (.tup (.cons (.str "name") (.cons (.var 0) .nil))))
  (.cons (.for_ (.n 5) (.rng1 (.var 2)) (.cons (.set 6 (.tup (.cons (.str "name") (.cons (.ix (.var 3) (.bin .mod (.bin .add (.var 5) (.int 1)) (.int 2))) .nil))))
  (.cons (.set 4 (.tup (.cons (.str "give") (.cons (.tup (.cons (.str "maker") (.cons (.ix (.var 3) (.bin .mod (.var 5) (.int 2))) (.cons (.var 4) .nil)))) (.cons (.tup (.cons (.str "sum") (.cons (.str "+") (.cons (.var 6) (.cons (.var 6) .nil))))) .nil)))))
  .nil)))
  (.cons (.ret (.tup (.cons (.str "give") (.cons (.tup (.cons (.str "maker") (.cons (.ix (.var 3) (.bin .mod (.var 2) (.int 2))) (.cons (.var 4) .nil)))) (.cons (.tup (.cons (.str "number") (.cons (.int 1) .nil))) .nil)))))
  .nil))))
def f__law_doubled : Fd := { np := 3, ns := 7, kind := none, dfl := [], fresh := false, body := b__law_doubled }
/-- _law_term: _law_state_here, _law_way, _law_name_here, _law_count, _law_sign, _law_less, _law_more, _law_body -/
def b__law_term : Ss := (.cons (.set 1 (.call 301 (.cons (.var 0) (.cons (.int 9) .nil))))
  (.cons (.set 2 (.call 302 (.cons (.var 0) (.cons (.lst (.disp .nil)) .nil))))
  (.cons (.set 3 (.bin .add (.ifx (.cmp .eq (.ix (.var 2) (.int 0)) (.str "a")) (.str "b") (.str "a")) (.sl (.var 2) (.e (.int 1)) .n)))
  (.cons (.set 4 (.ix (.lst (.disp (.cons (.str "+") (.cons (.str "-") (.cons (.str "<") .nil))))) (.call 301 (.cons (.var 0) (.cons (.int 3) .nil)))))
  (.cons (.ite (.cmp .lt (.var 1) (.int 2)) (.cons (.set 5 (.tup (.cons (.str "sum") (.cons (.str "-") (.cons (.tup (.cons (.str "name") (.cons (.var 3) .nil))) (.cons (.tup (.cons (.str "number") (.cons (.int 1) .nil))) .nil))))))
  (.cons (.set 6 (.tup (.cons (.str "sum") (.cons (.var 4) (.cons (.tup (.cons (.str "number") (.cons (.call 303 (.cons (.var 0) .nil)) .nil))) (.cons (.tup (.cons (.str "give") (.cons (.tup (.cons (.str "name") (.cons (.var 2) .nil))) (.cons (.var 5) .nil)))) .nil))))))
  (.cons (.set 7 (.tup (.cons (.str "maker") (.cons (.var 3) (.cons (.tup (.cons (.str "choice") (.cons (.tup (.cons (.str "name") (.cons (.var 3) .nil))) (.cons (.tup (.cons (.str "number") (.cons (.call 303 (.cons (.var 0) .nil)) .nil))) (.cons (.var 6) .nil))))) .nil)))))
  (.cons (.ret (.tup (.cons (.str "give") (.cons (.tup (.cons (.str "again") (.cons (.var 2) (.cons (.var 7) .nil)))) (.cons (.tup (.cons (.str "number") (.cons (.call 301 (.cons (.var 0) (.cons (.int 4) .nil))) .nil))) .nil)))))
  .nil)))) .nil)
  (.cons (.ite (.cmp .eq (.var 1) (.int 2)) (.cons (.ret (.tup (.cons (.str "again") (.cons (.var 2) (.cons (.tup (.cons (.str "name") (.cons (.var 2) .nil))) .nil)))))
  .nil) .nil)
  (.cons (.ite (.cmp .eq (.var 1) (.int 3)) (.cons (.ret (.tup (.cons (.str "again") (.cons (.var 2) (.cons (.tup (.cons (.str "sum") (.cons (.var 4) (.cons (.tup (.cons (.str "number") (.cons (.int 1) .nil))) (.cons (.tup (.cons (.str "name") (.cons (.var 2) .nil))) .nil))))) .nil)))))
  .nil) .nil)
  (.cons (.ite (.cmp .eq (.var 1) (.int 8)) (.cons (.ret (.call 306 (.cons (.var 2) (.cons (.var 3) (.cons (.bin .add (.int 6) (.call 301 (.cons (.var 0) (.cons (.int 6) .nil)))) .nil)))))
  .nil) .nil)
  (.cons (.ite (.cmp .eq (.var 1) (.int 4)) (.cons (.ret (.call 305 (.cons (.var 0) (.cons (.lst (.disp .nil)) (.cons (.int 5) .nil)))))
  .nil) .nil)
  (.cons (.set 7 (.call 305 (.cons (.var 0) (.cons (.lst (.disp (.cons (.var 2) (.cons (.var 2) .nil)))) (.cons (.int 4) .nil)))))
  (.cons (.ite (.cmp .eq (.var 1) (.int 5)) (.cons (.set 6 (.tup (.cons (.str "maker") (.cons (.var 3) (.cons (.tup (.cons (.str "sum") (.cons (.var 4) (.cons (.tup (.cons (.str "name") (.cons (.var 3) .nil))) (.cons (.var 7) .nil))))) .nil)))))
  (.cons (.set 7 (.tup (.cons (.str "sum") (.cons (.var 4) (.cons (.tup (.cons (.str "name") (.cons (.var 2) .nil))) (.cons (.tup (.cons (.str "give") (.cons (.var 6) (.cons (.var 7) .nil)))) .nil))))))
  .nil)) .nil)
  (.cons (.ret (.tup (.cons (.str "give") (.cons (.tup (.cons (.str "maker") (.cons (.var 2) (.cons (.var 7) .nil)))) (.cons (.call 305 (.cons (.var 0) (.cons (.lst (.disp .nil)) (.cons (.int 4) .nil)))) .nil)))))
  .nil))))))))))))
def f__law_term : Fd := { np := 1, ns := 8, kind := none, dfl := [], fresh := false, body := b__law_term }
/-- _law_shown: _law_thing, _law_whole -/
def b__law_shown : Ss := (.cons (.set 1 .non)
  (.cons (.try_ (.cons (.set 1 (.meth (.var 0) 21 .nil))
  .nil) [.mk 5 none (.ret .non)])
  (.cons (.ret (.meth (.var 1) 3 .nil))
  .nil)))
def f__law_shown : Fd := { np := 1, ns := 2, kind := none, dfl := [], fresh := false, body := b__law_shown }
/-- _law_stands: _law_bench, _law_whole, _law_at, _law_ran, _law_tally, _law_done_here, _law_told, _law_numbers, _law_wrong, _law_one -/
def b__law_stands : Ss := (.cons (.unp [3, 4, 5] (.call 112 (.cons (.var 1) (.cons (.var 2) .nil))))
  (.cons (.set 6 (.dic (.meth (.var 0) 63 .nil)))
  (.cons (.set 7 (.lst (.cat (.lst (.disp (.cons (.meth (.var 0) 62 .nil) (.cons (.meth (.var 0) 20 .nil) .nil)))) (.lst (.vals (.var 6))))))
  (.cons (.set 8 (.lst (.comp (.var 9) (.n 9) (.v (.var 7)) [9] (.cons (.or_ (.not_ (.v (.isi (.var 9) [.ty "int"]))) (.v (.isi (.var 9) [.ty "bool"]))) .nil))))
  (.cons (.ite (.or_ (.cmp .ne (.var 5) (.var 2)) (.cmp .ne (.var 8) (.lst (.disp .nil)))) (.cons (.ret (.bl false))
  .nil) .nil)
  (.cons (.ite (.or_ (.cmp .ne (.lst (.of (.var 6))) (.lst (.disp (.cons (.str "open") (.cons (.str "look") (.cons (.str "take") (.cons (.str "turn") (.cons (.str "next") (.cons (.str "sum") (.cons (.str "choose") .nil)))))))))) (.cmp .ne (.var 6) (.var 4))) (.cons (.ret (.bl false))
  .nil) .nil)
  (.cons (.ite (.cmp .ne (.lst (.disp (.cons (.meth (.var 0) 62 .nil) (.cons (.meth (.var 0) 17 .nil) (.cons (.meth (.var 0) 20 .nil) .nil))))) (.lst (.disp (.cons (.var 2) (.cons (.meth (.var 3) 17 .nil) (.cons (.meth (.var 3) 20 .nil) .nil)))))) (.cons (.ret (.bl false))
  .nil) .nil)
  (.cons (.ret (.andv (.cmp .eq (.meth (.var 0) 19 .nil) (.meth (.var 3) 19 .nil)) (.cmp .eq (.call 308 (.cons (.var 0) .nil)) (.call 308 (.cons (.var 3) .nil)))))
  .nil))))))))
def f__law_stands : Fd := { np := 3, ns := 10, kind := none, dfl := [], fresh := false, body := b__law_stands }
/-- _law_marks: _law_state_here, _law_letters, _law_alike, _law_name_here, _law_at, _law_found, _law_k, _law_first, _law_signs, _law_some, _law_j, _law_sign, _law_one -/
def b__law_marks : Ss := (.cons (.set 1 (.str "abcdefghijklmnopqrstuvwxyz"))
  (.cons (.set 2 (.cmp .eq (.call 301 (.cons (.var 0) (.cons (.int 2) .nil))) (.int 0)))
  (.cons (.set 3 (.call 302 (.cons (.var 0) (.cons (.lst (.disp .nil)) .nil))))
  (.cons (.set 4 (.call 301 (.cons (.var 0) (.cons (.bf .len (.cons (.var 3) .nil)) .nil))))
  (.cons (.set 5 (.hlst (.disp .nil)))
  (.cons (.for_ (.n 6) (.rng1 (.int 4)) (.cons (.ite (.not_ (.v (.var 2))) (.cons (.set 3 (.call 302 (.cons (.var 0) (.cons (.lst (.disp .nil)) .nil))))
  (.cons (.set 4 (.call 301 (.cons (.var 0) (.cons (.bf .len (.cons (.var 3) .nil)) .nil))))
  .nil)) .nil)
  (.cons (.set 7 (.call 301 (.cons (.var 0) (.cons (.int 26) .nil))))
  (.cons (.set 8 (.lst (.comp (.ix (.var 1) (.bin .mod (.bin .add (.var 7) (.var 10)) (.int 26))) (.n 10) (.rng1 (.int 5)) [10] .nil)))
  (.cons (.set 9 (.lst (.comp (.bin .add (.bin .add (.sl (.var 3) .n (.e (.var 4))) (.var 11)) (.sl (.var 3) (.e (.bin .add (.var 4) (.int 1))) .n)) (.n 11) (.v (.var 8)) [11] .nil)))
  (.cons (.ex (.mm .append (.var 5) (.cons (.ix (.lst (.comp (.var 12) (.n 12) (.v (.var 9)) [12] (.cons (.cmp .nin (.var 12) (.var 5)) .nil))) (.int 0)) .nil)))
  .nil))))))
  (.cons (.ret (.var 5))
  .nil)))))))
def f__law_marks : Fd := { np := 1, ns := 13, kind := none, dfl := [], fresh := false, body := b__law_marks }
/-- _law_done: _law_bench, _law_way, _law_name_here, _law_many, _law_marks_here -/
def b__law_done : Ss := (.cons (.ite (.cmp .lt (.var 1) (.int 3)) (.cons (.ret (.bin .add (.meth (.var 0) 62 .nil) (.meth (.var 0) 59 (.cons (.var 3) .nil))))
  .nil) .nil)
  (.cons (.ite (.cmp .eq (.var 1) (.int 3)) (.cons (.ret (.bin .sub (.meth (.var 0) 62 .nil) (.meth (.var 0) 61 (.cons (.var 3) .nil))))
  .nil) .nil)
  (.cons (.ite (.and_ (.cmp .eq (.var 1) (.int 4)) (.cmp .in_ (.var 2) (.var 4))) (.cons (.ret (.meth (.var 0) 65 (.cons (.var 2) .nil)))
  .nil) .nil)
  (.cons (.ex (.meth (.var 0) 64 (.cons (.var 2) .nil)))
  (.cons (.seti (.var 4) (.var 2) (.meth (.var 0) 62 .nil))
  (.cons (.ret (.meth (.var 0) 62 .nil))
  .nil))))))
def f__law_done : Fd := { np := 5, ns := 5, kind := none, dfl := [], fresh := false, body := b__law_done }
/-- _law_right: _law_benches, _law_whole, _law_stand, _law_marks_here, _law_k -/
def b__law_right : Ss := (.cons (.for_ (.n 4) (.rng1 (.bf .len (.cons (.var 0) .nil))) (.cons (.ite (.or_ (.not_ (.v (.isi (.ix (.var 0) (.var 4)) [.cls 40]))) (.cmp .ne (.dic (.meth (.ix (.var 0) (.var 4)) 66 .nil)) (.ix (.var 3) (.var 4)))) (.cons (.ret (.bl false))
  .nil) .nil)
  (.cons (.ite (.not_ (.v (.call 309 (.cons (.ix (.var 0) (.var 4)) (.cons (.var 1) (.cons (.ix (.var 2) (.var 4)) .nil)))))) (.cons (.ret (.bl false))
  .nil) .nil)
  .nil)))
  (.cons (.ret (.bl true))
  .nil))
def f__law_right : Fd := { np := 4, ns := 5, kind := none, dfl := [], fresh := false, body := b__law_right }
/-- law: _law_script, _law_state_here, _law_whole, _law_names, _law_last, _law_first, _law_begun, _law_gone, _law_benches, _law_stand, _law_marks_here, _law_turn, _law_k, _law_way, _law_name_here, _law_many, _law_due -/
def b_law : Ss := (.cons (.set 1 (.call 300 (.cons (.var 0) .nil)))
  (.cons (.set 2 (.call 61 (.cons (.call 307 (.cons (.var 1) .nil)) .nil)))
  (.cons (.set 3 (.call 310 (.cons (.var 1) .nil)))
  (.cons (.set 4 (.ix (.call 112 (.cons (.var 2) (.cons (.int 60) .nil))) (.int 2)))
  (.cons (.set 5 (.mkh 40 (.cons (.var 2) .nil)))
  (.cons (.set 6 (.bf .min2 (.cons (.var 4) (.cons (.call 301 (.cons (.var 1) (.cons (.int 20) .nil))) .nil))))
  (.cons (.ite (.cmp .ne (.meth (.var 5) 59 (.cons (.var 6) .nil)) (.var 6)) (.cons (.ret (.bl false))
  .nil) .nil)
  (.cons (.ex (.meth (.var 5) 64 (.cons (.ix (.var 3) (.int 0)) .nil)))
  (.cons (.set 7 (.bf .min2 (.cons (.var 6) (.cons (.call 301 (.cons (.var 1) (.cons (.int 3) .nil))) .nil))))
  (.cons (.ite (.cmp .ne (.meth (.var 5) 61 (.cons (.var 7) .nil)) (.var 7)) (.cons (.ret (.bl false))
  .nil) .nil)
  (.cons (.set 8 (.hlst (.disp (.cons (.var 5) (.cons (.meth (.var 5) 54 .nil) .nil)))))
  (.cons (.ex (.mm .append (.var 8) (.cons (.meth (.ix (.var 8) (.int 1)) 54 .nil) .nil)))
  (.cons (.set 9 (.hlst (.rep (.lst (.disp (.cons (.bin .sub (.var 6) (.var 7)) .nil))) (.int 3))))
  (.cons (.set 10 (.hlst (.disp (.cons (.hdic (.disp (.cons (.ix (.var 3) (.int 0)) (.var 6) .nil))) (.cons (.hdic (.disp (.cons (.ix (.var 3) (.int 0)) (.var 6) .nil))) (.cons (.hdic (.disp (.cons (.ix (.var 3) (.int 0)) (.var 6) .nil))) .nil))))))
  (.cons (.ite (.not_ (.v (.call 312 (.cons (.var 8) (.cons (.var 2) (.cons (.var 9) (.cons (.var 10) .nil))))))) (.cons (.ret (.bl false))
  .nil) .nil)
  (.cons (.for_ (.n 11) (.rng1 (.bf .min2 (.cons (.int 14) (.cons (.bin .add (.int 3) (.bf .len (.cons (.var 0) .nil))) .nil)))) (.cons (.set 12 (.call 301 (.cons (.var 1) (.cons (.int 3) .nil))))
  (.cons (.set 13 (.call 301 (.cons (.var 1) (.cons (.int 6) .nil))))
  (.cons (.set 14 (.ix (.var 3) (.call 301 (.cons (.var 1) (.cons (.int 4) .nil)))))
  (.cons (.set 15 (.call 301 (.cons (.var 1) (.cons (.ix (.lst (.disp (.cons (.int 3) (.cons (.int 30) .nil)))) (.call 301 (.cons (.var 1) (.cons (.int 2) .nil)))) .nil))))
  (.cons (.set 15 (.bf .min2 (.cons (.var 15) (.cons (.ifx (.cmp .lt (.var 13) (.int 3)) (.bin .sub (.var 4) (.ix (.var 9) (.var 12))) (.ix (.var 9) (.var 12))) .nil))))
  (.cons (.set 16 (.ifx (.cmp .lt (.var 13) (.int 3)) (.bin .add (.ix (.var 9) (.var 12)) (.var 15)) (.bin .sub (.ix (.var 9) (.var 12)) (.var 15))))
  (.cons (.ite (.cmp .gt (.var 13) (.int 3)) (.cons (.set 16 (.ifx (.cmp .eq (.var 13) (.int 4)) (.get2 (.ix (.var 10) (.var 12)) (.var 14) (.ix (.var 9) (.var 12))) (.ix (.var 9) (.var 12))))
  .nil) .nil)
  (.cons (.seti (.var 9) (.var 12) (.var 16))
  (.cons (.ite (.cmp .ne (.call 311 (.cons (.ix (.var 8) (.var 12)) (.cons (.var 13) (.cons (.var 14) (.cons (.var 15) (.cons (.ix (.var 10) (.var 12)) .nil)))))) (.var 16)) (.cons (.ret (.bl false))
  .nil) .nil)
  (.cons (.ite (.not_ (.v (.call 312 (.cons (.var 8) (.cons (.var 2) (.cons (.var 9) (.cons (.var 10) .nil))))))) (.cons (.ret (.bl false))
  .nil) .nil)
  .nil)))))))))))
  (.cons (.ret (.bl true))
  .nil)))))))))))))))))
def f_law : Fd := { np := 1, ns := 17, kind := none, dfl := [], fresh := false, body := b_law }
def g_0 : PV := (.str "abcdefghijklmnopqrstuvwxyz")
def g_1 : PV := (.int 8)
def g_2 : PV := (.tup [(.str "+"), (.str "-"), (.str "<")])
def g_3 : PV := (.int 600)
def g_4 : PV := (.int 60)
def g_5 : PV := (.tup [(.str "open"), (.str "look"), (.str "take"), (.str "turn"), (.str "next"), (.str "sum"), (.str "choose")])
def g_11 : PV := (.int 300)
def g_100 : PV := (.kdc [.inr "name", .inr "number", .inr "maker", .inr "give", .inr "sum", .inr "choice", .inr "again", .inr "open"] [(.int 2), (.int 2), (.int 3), (.int 3), (.int 4), (.int 4), (.int 3), (.int 1)])
def g_101 : PV := (.kdc [.inr "open", .inr "look", .inr "take", .inr "turn", .inr "next", .inr "sum", .inr "choose"] [(.fn 107), (.fn 108), (.fn 110), (.fn 109), (.fn 110), (.fn 110), (.fn 110)])
def LT_gcs : List (Nat × PV) := [(0, g_0), (1, g_1), (2, g_2), (3, g_3), (4, g_4), (5, g_5), (11, g_11), (100, g_100), (101, g_101)]
def t_gcs (n : Nat) : Option PV := lk LT_gcs n
def c_TallyError : Cl := { flds := [], init := none, froz := false, exc := true, sups := [0] }
def c_BadTerm : Cl := { flds := [], init := none, froz := false, exc := true, sups := [1, 0] }
def c_BadName : Cl := { flds := [], init := none, froz := false, exc := true, sups := [2, 0] }
def c_NoStep : Cl := { flds := [], init := none, froz := false, exc := true, sups := [4, 0] }
def c_TooGreat : Cl := { flds := [], init := none, froz := false, exc := true, sups := [5, 0] }
def c_NoMark : Cl := { flds := [], init := none, froz := false, exc := true, sups := [8, 0] }
def c_Term : Cl := { flds := [], init := none, froz := true, exc := false, sups := [14] }
def c_Open : Cl := { flds := [], init := none, froz := true, exc := false, sups := [15, 14] }
def c_Name : Cl := { flds := [1], init := some 20, froz := true, exc := false, sups := [16, 14] }
def c_Number : Cl := { flds := [4], init := some 25, froz := true, exc := false, sups := [17, 14] }
def c_Maker : Cl := { flds := [1, 5], init := some 28, froz := true, exc := false, sups := [18, 14] }
def c_Give : Cl := { flds := [6, 7], init := some 34, froz := true, exc := false, sups := [19, 14] }
def c_Sum : Cl := { flds := [8, 9, 10], init := some 39, froz := true, exc := false, sups := [20, 14] }
def c_Choice : Cl := { flds := [11, 12, 10], init := some 44, froz := true, exc := false, sups := [21, 14] }
def c_Again : Cl := { flds := [1, 5], init := some 49, froz := true, exc := false, sups := [22, 14] }
def c_Late : Cl := { flds := [13, 14, 15, 16, 17], init := some 72, froz := true, exc := false, sups := [23] }
def c_Waiting : Cl := { flds := [], init := none, froz := true, exc := false, sups := [24] }
def c_GivenWait : Cl := { flds := [18], init := some 80, froz := true, exc := false, sups := [25, 24] }
def c_OtherWait : Cl := { flds := [8, 18], init := some 85, froz := true, exc := false, sups := [26, 24] }
def c_NumberWait : Cl := { flds := [8, 4], init := some 90, froz := true, exc := false, sups := [27, 24] }
def c_ChoiceWait : Cl := { flds := [12, 10], init := some 95, froz := true, exc := false, sups := [28, 24] }
def c_State : Cl := { flds := [19, 14, 20], init := some 100, froz := true, exc := false, sups := [29] }
def c_Bench : Cl := { flds := [32, 37, 38, 39, 40], init := some 219, froz := false, exc := false, sups := [40] }
def LT_cls : List (Nat × Cl) := [(0, c_TallyError), (1, c_BadTerm), (2, c_BadName), (4, c_NoStep), (5, c_TooGreat), (8, c_NoMark), (14, c_Term), (15, c_Open), (16, c_Name), (17, c_Number), (18, c_Maker), (19, c_Give), (20, c_Sum), (21, c_Choice), (22, c_Again), (23, c_Late), (24, c_Waiting), (25, c_GivenWait), (26, c_OtherWait), (27, c_NumberWait), (28, c_ChoiceWait), (29, c_State), (40, c_Bench)]
def t_cls (n : Nat) : Option Cl := lk LT_cls n
def LM_meth : List (Nat × List (Nat × Nat)) := [(14, [(0, 7), (1, 8), (2, 9), (3, 10), (5, 12)]), (15, [(0, 7), (1, 8), (2, 9), (3, 10), (5, 12)]), (16, [(0, 7), (1, 8), (2, 9), (3, 21), (5, 23)]), (17, [(0, 7), (1, 8), (2, 9), (3, 26), (5, 12)]), (18, [(0, 29), (1, 30), (2, 31), (3, 32), (5, 12)]), (19, [(0, 35), (1, 36), (2, 9), (3, 37), (5, 12)]), (20, [(0, 40), (1, 41), (2, 9), (3, 42), (5, 12)]), (21, [(0, 45), (1, 46), (2, 9), (3, 47), (5, 12)]), (22, [(0, 50), (1, 51), (2, 52), (3, 53), (5, 12)]), (25, [(12, 81), (13, 82), (14, 83), (15, 84)]), (26, [(12, 86), (13, 87), (14, 88), (15, 89)]), (27, [(12, 91), (13, 92), (14, 93), (15, 94)]), (28, [(12, 96), (13, 97), (14, 98), (15, 99)]), (29, [(16, 101), (17, 102), (18, 103), (19, 104), (20, 105), (21, 106)]), (40, [(17, 224), (19, 225), (20, 226), (21, 227), (54, 232), (59, 220), (60, 221), (61, 222), (62, 223), (63, 228), (64, 229), (65, 230), (66, 231)])]
def t_meth (c m : Nat) : Option Nat := (lk LM_meth c).bind fun l => lk l m
def LT_fns : List (Nat × Fd) := [(4, f_is_name), (5, f_is_whole), (6, f_need_name), (7, f_Term_parts), (8, f_Term_rebuilt), (9, f_Term_binds), (10, f_Term_told), (12, f_Term_free), (19, f_need_terms), (20, f_Name_init), (21, f_Name_told), (23, f_Name_free), (25, f_Number_init), (26, f_Number_told), (28, f_Maker_init), (29, f_Maker_parts), (30, f_Maker_rebuilt), (31, f_Maker_binds), (32, f_Maker_told), (34, f_Give_init), (35, f_Give_parts), (36, f_Give_rebuilt), (37, f_Give_told), (39, f_Sum_init), (40, f_Sum_parts), (41, f_Sum_rebuilt), (42, f_Sum_told), (44, f_Choice_init), (45, f_Choice_parts), (46, f_Choice_rebuilt), (47, f_Choice_told), (49, f_Again_init), (50, f_Again_parts), (51, f_Again_rebuilt), (52, f_Again_binds), (53, f_Again_told), (55, f_must_be_closed), (72, f_Late_init), (73, f_is_beyond), (74, f_measured), (75, f_read_back), (61, f_term_of), (62, f_sum_of), (80, f_GivenWait_init), (81, f_GivenWait_sort_for), (82, f_GivenWait_after), (83, f_GivenWait_grown), (84, f_GivenWait_around), (85, f_OtherWait_init), (86, f_OtherWait_sort_for), (87, f_OtherWait_after), (88, f_OtherWait_grown), (89, f_OtherWait_around), (90, f_NumberWait_init), (91, f_NumberWait_sort_for), (92, f_NumberWait_after), (93, f_NumberWait_grown), (94, f_NumberWait_around), (95, f_ChoiceWait_init), (96, f_ChoiceWait_sort_for), (97, f_ChoiceWait_after), (98, f_ChoiceWait_grown), (99, f_ChoiceWait_around), (100, f_State_init), (101, f_State_next_sort), (102, f_State_how), (103, f_State_step), (104, f_State_came), (105, f_State_height), (106, f_State_shown), (107, f_opened), (108, f_looked), (109, f_turned), (110, f_went_on), (111, f_first_state), (112, f_machine_run), (116, f_tally_with), (219, f_Bench_init), (220, f_Bench_forth), (221, f_Bench_is_next), (222, f_Bench_back), (223, f_Bench_done), (224, f_Bench_how), (225, f_Bench_came), (226, f_Bench_height), (227, f_Bench_shown), (228, f_Bench_tally), (229, f_Bench_mark), (230, f_Bench_to), (231, f_Bench_marks), (232, f_Bench_twin), (300, f__law_state), (301, f__law_draw), (302, f__law_name), (303, f__law_number), (304, f__law_leaf), (305, f__law_any), (306, f__law_doubled), (307, f__law_term), (308, f__law_shown), (309, f__law_stands), (310, f__law_marks), (311, f__law_done), (312, f__law_right), (313, f_law)]
def t_fns (n : Nat) : Option Fd := lk LT_fns n
def tab : Tab := { fns := t_fns, cls := t_cls, meth := t_meth, gcs := t_gcs }
end U
namespace U
open PySem PySem.Spec L2
def cnF : Nat → Str
  | 0 => "TallyError"
  | 1 => "BadTerm"
  | 2 => "BadName"
  | 4 => "NoStep"
  | 5 => "TooGreat"
  | 8 => "NoMark"
  | 11 => "NotClosed"
  | 14 => "Term"
  | 15 => "Open"
  | 16 => "Name"
  | 17 => "Number"
  | 18 => "Maker"
  | 19 => "Give"
  | 20 => "Sum"
  | 21 => "Choice"
  | 22 => "Again"
  | 23 => "Late"
  | 24 => "Waiting"
  | 25 => "GivenWait"
  | 26 => "OtherWait"
  | 27 => "NumberWait"
  | 28 => "ChoiceWait"
  | 29 => "State"
  | 40 => "Bench"
  | _ => ""
def anF : Nat → Str
  | 0 => "place"
  | 1 => "name"
  | 2 => "word"
  | 3 => "by"
  | 4 => "number"
  | 5 => "body"
  | 6 => "maker"
  | 7 => "given"
  | 8 => "sign"
  | 9 => "one"
  | 10 => "other"
  | 11 => "asked"
  | 12 => "nought"
  | 13 => "what"
  | 14 => "ties"
  | 15 => "many"
  | 16 => "deep"
  | 17 => "full"
  | 18 => "late"
  | 19 => "at"
  | 20 => "pile"
  | 21 => "thing"
  | 22 => "first"
  | 23 => "later"
  | 24 => "visits"
  | 25 => "things"
  | 26 => "kind"
  | 27 => "comes"
  | 28 => "paper"
  | 29 => "weighed"
  | 30 => "looks"
  | 31 => "accounts"
  | 32 => "begun"
  | 33 => "papers"
  | 34 => "kept"
  | 35 => "rows"
  | 36 => "deeds"
  | 37 => "states"
  | 38 => "sorts"
  | 39 => "here"
  | 40 => "marked"
  | 41 => "signs"
  | 42 => "within"
  | 43 => "book"
  | 44 => "bench"
  | _ => ""
def mnF : Nat → Str
  | 0 => "parts"
  | 1 => "rebuilt"
  | 2 => "binds"
  | 3 => "told"
  | 4 => "text"
  | 5 => "free"
  | 6 => "put"
  | 7 => "with_given"
  | 8 => "size"
  | 9 => "depth"
  | 10 => "__eq__"
  | 11 => "__str__"
  | 12 => "sort_for"
  | 13 => "after"
  | 14 => "grown"
  | 15 => "around"
  | 16 => "next_sort"
  | 17 => "how"
  | 18 => "step"
  | 19 => "came"
  | 20 => "height"
  | 21 => "shown"
  | 22 => "on_to"
  | 23 => "put_off"
  | 24 => "tied"
  | 25 => "waits"
  | 26 => "stands"
  | 27 => "go"
  | 28 => "go_thing"
  | 29 => "go_open"
  | 30 => "go_number"
  | 31 => "bear"
  | 32 => "bear_row"
  | 33 => "reckon"
  | 34 => "began_at"
  | 35 => "of_name"
  | 36 => "of_maker"
  | 37 => "of_give"
  | 38 => "of_again"
  | 39 => "of_two"
  | 40 => "exchange"
  | 41 => "fitting"
  | 42 => "keep_it"
  | 43 => "go_to"
  | 44 => "__len__"
  | 45 => "names"
  | 46 => "place_of"
  | 47 => "need_names"
  | 48 => "keep_deed"
  | 49 => "add"
  | 50 => "change"
  | 51 => "drop"
  | 52 => "undo"
  | 53 => "log"
  | 54 => "twin"
  | 55 => "term"
  | 56 => "hung"
  | 57 => "closed"
  | 58 => "used"
  | 59 => "forth"
  | 60 => "is_next"
  | 61 => "back"
  | 62 => "done"
  | 63 => "tally"
  | 64 => "mark"
  | 65 => "to"
  | 66 => "marks"
  | 67 => "sees"
  | 68 => "skip"
  | 69 => "need"
  | 70 => "letters"
  | 71 => "figures"
  | 72 => "whole"
  | 73 => "bracketed"
  | 74 => "answer"
  | 75 => "tried"
  | 76 => "carried_out"
  | 77 => "let"
  | 78 => "of_term"
  | 79 => "of_bench"
  | 80 => "of_book"
  | _ => ""
def gnF : Nat → Str
  | 0 => "LETTERS"
  | 1 => "MOST_LETTERS"
  | 2 => "SUMS"
  | 3 => "MOST_PLACES"
  | 4 => "MOST_DEEP"
  | 5 => "SORTS"
  | 11 => "MOST_DONE"
  | 100 => "LENGTHS"
  | 101 => "DEEDS"
  | _ => ""
def fatF : Nat → Str × Option Str
  | 4 => ("is_name", none)
  | 5 => ("is_whole", none)
  | 6 => ("need_name", none)
  | 7 => ("Term", some "parts")
  | 8 => ("Term", some "rebuilt")
  | 9 => ("Term", some "binds")
  | 10 => ("Term", some "told")
  | 12 => ("Term", some "free")
  | 19 => ("need_terms", none)
  | 20 => ("Name", some "__init__")
  | 21 => ("Name", some "told")
  | 23 => ("Name", some "free")
  | 25 => ("Number", some "__init__")
  | 26 => ("Number", some "told")
  | 28 => ("Maker", some "__init__")
  | 29 => ("Maker", some "parts")
  | 30 => ("Maker", some "rebuilt")
  | 31 => ("Maker", some "binds")
  | 32 => ("Maker", some "told")
  | 34 => ("Give", some "__init__")
  | 35 => ("Give", some "parts")
  | 36 => ("Give", some "rebuilt")
  | 37 => ("Give", some "told")
  | 39 => ("Sum", some "__init__")
  | 40 => ("Sum", some "parts")
  | 41 => ("Sum", some "rebuilt")
  | 42 => ("Sum", some "told")
  | 44 => ("Choice", some "__init__")
  | 45 => ("Choice", some "parts")
  | 46 => ("Choice", some "rebuilt")
  | 47 => ("Choice", some "told")
  | 49 => ("Again", some "__init__")
  | 50 => ("Again", some "parts")
  | 51 => ("Again", some "rebuilt")
  | 52 => ("Again", some "binds")
  | 53 => ("Again", some "told")
  | 55 => ("must_be_closed", none)
  | 61 => ("term_of", none)
  | 62 => ("sum_of", none)
  | 72 => ("Late", some "__init__")
  | 73 => ("is_beyond", none)
  | 74 => ("measured", none)
  | 75 => ("read_back", none)
  | 80 => ("GivenWait", some "__init__")
  | 81 => ("GivenWait", some "sort_for")
  | 82 => ("GivenWait", some "after")
  | 83 => ("GivenWait", some "grown")
  | 84 => ("GivenWait", some "around")
  | 85 => ("OtherWait", some "__init__")
  | 86 => ("OtherWait", some "sort_for")
  | 87 => ("OtherWait", some "after")
  | 88 => ("OtherWait", some "grown")
  | 89 => ("OtherWait", some "around")
  | 90 => ("NumberWait", some "__init__")
  | 91 => ("NumberWait", some "sort_for")
  | 92 => ("NumberWait", some "after")
  | 93 => ("NumberWait", some "grown")
  | 94 => ("NumberWait", some "around")
  | 95 => ("ChoiceWait", some "__init__")
  | 96 => ("ChoiceWait", some "sort_for")
  | 97 => ("ChoiceWait", some "after")
  | 98 => ("ChoiceWait", some "grown")
  | 99 => ("ChoiceWait", some "around")
  | 100 => ("State", some "__init__")
  | 101 => ("State", some "next_sort")
  | 102 => ("State", some "how")
  | 103 => ("State", some "step")
  | 104 => ("State", some "came")
  | 105 => ("State", some "height")
  | 106 => ("State", some "shown")
  | 107 => ("opened", none)
  | 108 => ("looked", none)
  | 109 => ("turned", none)
  | 110 => ("went_on", none)
  | 111 => ("first_state", none)
  | 112 => ("machine_run", none)
  | 116 => ("tally_with", none)
  | 219 => ("Bench", some "__init__")
  | 220 => ("Bench", some "forth")
  | 221 => ("Bench", some "is_next")
  | 222 => ("Bench", some "back")
  | 223 => ("Bench", some "done")
  | 224 => ("Bench", some "how")
  | 225 => ("Bench", some "came")
  | 226 => ("Bench", some "height")
  | 227 => ("Bench", some "shown")
  | 228 => ("Bench", some "tally")
  | 229 => ("Bench", some "mark")
  | 230 => ("Bench", some "to")
  | 231 => ("Bench", some "marks")
  | 232 => ("Bench", some "twin")
  | 300 => ("_law_state", none)
  | 301 => ("_law_draw", none)
  | 302 => ("_law_name", none)
  | 303 => ("_law_number", none)
  | 304 => ("_law_leaf", none)
  | 305 => ("_law_any", none)
  | 306 => ("_law_doubled", none)
  | 307 => ("_law_term", none)
  | 308 => ("_law_shown", none)
  | 309 => ("_law_stands", none)
  | 310 => ("_law_marks", none)
  | 311 => ("_law_done", none)
  | 312 => ("_law_right", none)
  | 313 => ("law", none)
  | _ => ("", none)
def kwF : Nat → List (Nat × List Str)
  | _ => []
def kwM : Nat → List (Nat × List Str)
  | _ => []
def wd : Wd := { G := tab, cn := cnF, an := anF, mn := mnF, gn := gnF, fat := fatF, kw := kwF, kwm := kwM }
def n_is_name : List Str := ["thing", "sign"]
def p_is_name : List Str := ["thing"]
def n_is_whole : List Str := ["thing"]
def p_is_whole : List Str := ["thing"]
def n_need_name : List Str := ["thing"]
def p_need_name : List Str := ["thing"]
def n_Term_parts : List Str := ["self"]
def p_Term_parts : List Str := ["self"]
def n_Term_rebuilt : List Str := ["self", "parts"]
def p_Term_rebuilt : List Str := ["self", "parts"]
def n_Term_binds : List Str := ["self"]
def p_Term_binds : List Str := ["self"]
def n_Term_told : List Str := ["self"]
def p_Term_told : List Str := ["self"]
def n_Term_free : List Str := ["self", "names", "part", "name"]
def p_Term_free : List Str := ["self"]
def n_need_terms : List Str := ["things", "thing"]
def p_need_terms : List Str := ["things"]
def n_Name_init : List Str := ["self", "name"]
def p_Name_init : List Str := ["self", "name"]
def n_Name_told : List Str := ["self"]
def p_Name_told : List Str := ["self"]
def n_Name_free : List Str := ["self"]
def p_Name_free : List Str := ["self"]
def n_Number_init : List Str := ["self", "number"]
def p_Number_init : List Str := ["self", "number"]
def n_Number_told : List Str := ["self"]
def p_Number_told : List Str := ["self"]
def n_Maker_init : List Str := ["self", "name", "body"]
def p_Maker_init : List Str := ["self", "name", "body"]
def n_Maker_parts : List Str := ["self"]
def p_Maker_parts : List Str := ["self"]
def n_Maker_rebuilt : List Str := ["self", "parts"]
def p_Maker_rebuilt : List Str := ["self", "parts"]
def n_Maker_binds : List Str := ["self"]
def p_Maker_binds : List Str := ["self"]
def n_Maker_told : List Str := ["self"]
def p_Maker_told : List Str := ["self"]
def n_Give_init : List Str := ["self", "maker", "given"]
def p_Give_init : List Str := ["self", "maker", "given"]
def n_Give_parts : List Str := ["self"]
def p_Give_parts : List Str := ["self"]
def n_Give_rebuilt : List Str := ["self", "parts"]
def p_Give_rebuilt : List Str := ["self", "parts"]
def n_Give_told : List Str := ["self"]
def p_Give_told : List Str := ["self"]
def n_Sum_init : List Str := ["self", "sign", "one", "other"]
def p_Sum_init : List Str := ["self", "sign", "one", "other"]
def n_Sum_parts : List Str := ["self"]
def p_Sum_parts : List Str := ["self"]
def n_Sum_rebuilt : List Str := ["self", "parts"]
def p_Sum_rebuilt : List Str := ["self", "parts"]
def n_Sum_told : List Str := ["self"]
def p_Sum_told : List Str := ["self"]
def n_Choice_init : List Str := ["self", "asked", "nought", "other"]
def p_Choice_init : List Str := ["self", "asked", "nought", "other"]
def n_Choice_parts : List Str := ["self"]
def p_Choice_parts : List Str := ["self"]
def n_Choice_rebuilt : List Str := ["self", "parts"]
def p_Choice_rebuilt : List Str := ["self", "parts"]
def n_Choice_told : List Str := ["self"]
def p_Choice_told : List Str := ["self"]
def n_Again_init : List Str := ["self", "name", "body"]
def p_Again_init : List Str := ["self", "name", "body"]
def n_Again_parts : List Str := ["self"]
def p_Again_parts : List Str := ["self"]
def n_Again_rebuilt : List Str := ["self", "parts"]
def p_Again_rebuilt : List Str := ["self", "parts"]
def n_Again_binds : List Str := ["self"]
def p_Again_binds : List Str := ["self"]
def n_Again_told : List Str := ["self"]
def p_Again_told : List Str := ["self"]
def n_must_be_closed : List Str := ["term", "names"]
def p_must_be_closed : List Str := ["term"]
def n_Late_init : List Str := ["self", "what", "ties", "places", "deep"]
def p_Late_init : List Str := ["self", "what", "ties"]
def n_is_beyond : List Str := ["places", "deep"]
def p_is_beyond : List Str := ["places", "deep"]
def n_measured : List Str := ["part", "ties", "hidden", "places", "deep", "inner", "more", "down"]
def p_measured : List Str := ["part", "ties", "hidden"]
def n_read_back : List Str := ["part", "ties", "hidden", "parts", "inner"]
def p_read_back : List Str := ["part", "ties", "hidden"]
def n_term_of : List Str := ["told", "word"]
def p_term_of : List Str := ["told"]
def n_sum_of : List Str := ["sign", "one", "other"]
def p_sum_of : List Str := ["sign", "one", "other"]
def n_GivenWait_init : List Str := ["self", "late"]
def p_GivenWait_init : List Str := ["self", "late"]
def n_GivenWait_sort_for : List Str := ["self", "at"]
def p_GivenWait_sort_for : List Str := ["self", "at"]
def n_GivenWait_after : List Str := ["self", "at", "ties"]
def p_GivenWait_after : List Str := ["self", "at", "ties"]
def n_GivenWait_grown : List Str := ["self", "places", "deep"]
def p_GivenWait_grown : List Str := ["self", "places", "deep"]
def n_GivenWait_around : List Str := ["self", "full"]
def p_GivenWait_around : List Str := ["self", "full"]
def n_OtherWait_init : List Str := ["self", "sign", "late"]
def p_OtherWait_init : List Str := ["self", "sign", "late"]
def n_OtherWait_sort_for : List Str := ["self", "at"]
def p_OtherWait_sort_for : List Str := ["self", "at"]
def n_OtherWait_after : List Str := ["self", "at", "ties"]
def p_OtherWait_after : List Str := ["self", "at", "ties"]
def n_OtherWait_grown : List Str := ["self", "places", "deep"]
def p_OtherWait_grown : List Str := ["self", "places", "deep"]
def n_OtherWait_around : List Str := ["self", "full"]
def p_OtherWait_around : List Str := ["self", "full"]
def n_NumberWait_init : List Str := ["self", "sign", "number"]
def p_NumberWait_init : List Str := ["self", "sign", "number"]
def n_NumberWait_sort_for : List Str := ["self", "at"]
def p_NumberWait_sort_for : List Str := ["self", "at"]
def n_NumberWait_after : List Str := ["self", "at", "ties"]
def p_NumberWait_after : List Str := ["self", "at", "ties"]
def n_NumberWait_grown : List Str := ["self", "places", "deep"]
def p_NumberWait_grown : List Str := ["self", "places", "deep"]
def n_NumberWait_around : List Str := ["self", "full"]
def p_NumberWait_around : List Str := ["self", "full"]
def n_ChoiceWait_init : List Str := ["self", "nought", "other"]
def p_ChoiceWait_init : List Str := ["self", "nought", "other"]
def n_ChoiceWait_sort_for : List Str := ["self", "at"]
def p_ChoiceWait_sort_for : List Str := ["self", "at"]
def n_ChoiceWait_after : List Str := ["self", "at", "ties", "chosen"]
def p_ChoiceWait_after : List Str := ["self", "at", "ties"]
def n_ChoiceWait_grown : List Str := ["self", "places", "deep", "deepest"]
def p_ChoiceWait_grown : List Str := ["self", "places", "deep"]
def n_ChoiceWait_around : List Str := ["self", "full"]
def p_ChoiceWait_around : List Str := ["self", "full"]
def n_State_init : List Str := ["self", "at", "ties", "pile"]
def p_State_init : List Str := ["self", "at", "ties", "pile"]
def n_State_next_sort : List Str := ["self"]
def p_State_next_sort : List Str := ["self"]
def n_State_how : List Str := ["self"]
def p_State_how : List Str := ["self"]
def n_State_step : List Str := ["self", "sort", "deed"]
def p_State_step : List Str := ["self"]
def n_State_came : List Str := ["self"]
def p_State_came : List Str := ["self"]
def n_State_height : List Str := ["self"]
def p_State_height : List Str := ["self"]
def n_State_shown : List Str := ["self", "places", "deep", "waiting", "full"]
def p_State_shown : List Str := ["self"]
def n_opened : List Str := ["state", "at", "ties"]
def p_opened : List Str := ["state"]
def n_looked : List Str := ["state", "late"]
def p_looked : List Str := ["state"]
def n_turned : List Str := ["state", "ties"]
def p_turned : List Str := ["state"]
def n_went_on : List Str := ["state", "at", "ties", "waits"]
def p_went_on : List Str := ["state"]
def n_first_state : List Str := ["term"]
def p_first_state : List Str := ["term"]
def n_machine_run : List Str := ["term", "most", "state", "tally", "sort", "done"]
def p_machine_run : List Str := ["term", "most"]
def n_tally_with : List Str := ["sorts", "tally", "sort"]
def p_tally_with : List Str := ["sorts"]
def n_Bench_init : List Str := ["self", "term"]
def p_Bench_init : List Str := ["self", "term"]
def n_Bench_forth : List Str := ["self", "many", "ahead"]
def p_Bench_forth : List Str := ["self", "many"]
def n_Bench_is_next : List Str := ["self", "state", "sort"]
def p_Bench_is_next : List Str := ["self"]
def n_Bench_back : List Str := ["self", "many", "gone"]
def p_Bench_back : List Str := ["self", "many"]
def n_Bench_done : List Str := ["self"]
def p_Bench_done : List Str := ["self"]
def n_Bench_how : List Str := ["self"]
def p_Bench_how : List Str := ["self"]
def n_Bench_came : List Str := ["self"]
def p_Bench_came : List Str := ["self"]
def n_Bench_height : List Str := ["self"]
def p_Bench_height : List Str := ["self"]
def n_Bench_shown : List Str := ["self"]
def p_Bench_shown : List Str := ["self"]
def n_Bench_tally : List Str := ["self"]
def p_Bench_tally : List Str := ["self"]
def n_Bench_mark : List Str := ["self", "name"]
def p_Bench_mark : List Str := ["self", "name"]
def n_Bench_to : List Str := ["self", "name"]
def p_Bench_to : List Str := ["self", "name"]
def n_Bench_marks : List Str := ["self", "found", "name"]
def p_Bench_marks : List Str := ["self"]
def n_Bench_twin : List Str := ["self", "other"]
def p_Bench_twin : List Str := ["self"]
def n__law_state : List Str := ["_law_script", "_law_cells", "_law_cell"]
def p__law_state : List Str := ["_law_script"]
def n__law_draw : List Str := ["_law_state_here", "_law_many", "_law_cells", "_law_at", "_law_cell"]
def p__law_draw : List Str := ["_law_state_here", "_law_many"]
def n__law_name : List Str := ["_law_state_here", "_law_names", "_law_way", "_law_letters", "_law_k"]
def p__law_name : List Str := ["_law_state_here", "_law_names"]
def n__law_number : List Str := ["_law_state_here", "_law_way", "_law_number_here", "_law_k"]
def p__law_number : List Str := ["_law_state_here"]
def n__law_leaf : List Str := ["_law_state_here", "_law_names", "_law_way"]
def p__law_leaf : List Str := ["_law_state_here", "_law_names"]
def n__law_any : List Str := ["_law_state_here", "_law_names", "_law_deep", "_law_way", "_law_name_here", "_law_sign", "_law_parts", "_law_k"]
def p__law_any : List Str := ["_law_state_here", "_law_names", "_law_deep"]
def n__law_doubled : List Str := ["_law_name_here", "_law_count", "_law_levels", "_law_names", "_law_told", "_law_k", "_law_more"]
def p__law_doubled : List Str := ["_law_name_here", "_law_count", "_law_levels"]
def n__law_term : List Str := ["_law_state_here", "_law_way", "_law_name_here", "_law_count", "_law_sign", "_law_less", "_law_more", "_law_body"]
def p__law_term : List Str := ["_law_state_here"]
def n__law_shown : List Str := ["_law_thing", "_law_whole"]
def p__law_shown : List Str := ["_law_thing"]
def n__law_stands : List Str := ["_law_bench", "_law_whole", "_law_at", "_law_ran", "_law_tally", "_law_done_here", "_law_told", "_law_numbers", "_law_wrong", "_law_one"]
def p__law_stands : List Str := ["_law_bench", "_law_whole", "_law_at"]
def n__law_marks : List Str := ["_law_state_here", "_law_letters", "_law_alike", "_law_name_here", "_law_at", "_law_found", "_law_k", "_law_first", "_law_signs", "_law_some", "_law_j", "_law_sign", "_law_one"]
def p__law_marks : List Str := ["_law_state_here"]
def n__law_done : List Str := ["_law_bench", "_law_way", "_law_name_here", "_law_many", "_law_marks_here"]
def p__law_done : List Str := ["_law_bench", "_law_way", "_law_name_here", "_law_many", "_law_marks_here"]
def n__law_right : List Str := ["_law_benches", "_law_whole", "_law_stand", "_law_marks_here", "_law_k"]
def p__law_right : List Str := ["_law_benches", "_law_whole", "_law_stand", "_law_marks_here"]
def n_law : List Str := ["_law_script", "_law_state_here", "_law_whole", "_law_names", "_law_last", "_law_first", "_law_begun", "_law_gone", "_law_benches", "_law_stand", "_law_marks_here", "_law_turn", "_law_k", "_law_way", "_law_name_here", "_law_many", "_law_due"]
def p_law : List Str := ["_law_script"]
def places : Nat → Option (Nat × Option Nat × List Str × List Str)
  | 4 => some (15, none, n_is_name, p_is_name)
  | 5 => some (16, none, n_is_whole, p_is_whole)
  | 6 => some (17, none, n_need_name, p_need_name)
  | 7 => some (18, some 0, n_Term_parts, p_Term_parts)
  | 8 => some (18, some 1, n_Term_rebuilt, p_Term_rebuilt)
  | 9 => some (18, some 2, n_Term_binds, p_Term_binds)
  | 10 => some (18, some 3, n_Term_told, p_Term_told)
  | 12 => some (18, some 5, n_Term_free, p_Term_free)
  | 19 => some (19, none, n_need_terms, p_need_terms)
  | 20 => some (21, some 0, n_Name_init, p_Name_init)
  | 21 => some (21, some 1, n_Name_told, p_Name_told)
  | 23 => some (21, some 3, n_Name_free, p_Name_free)
  | 25 => some (22, some 0, n_Number_init, p_Number_init)
  | 26 => some (22, some 1, n_Number_told, p_Number_told)
  | 28 => some (23, some 0, n_Maker_init, p_Maker_init)
  | 29 => some (23, some 1, n_Maker_parts, p_Maker_parts)
  | 30 => some (23, some 2, n_Maker_rebuilt, p_Maker_rebuilt)
  | 31 => some (23, some 3, n_Maker_binds, p_Maker_binds)
  | 32 => some (23, some 4, n_Maker_told, p_Maker_told)
  | 34 => some (24, some 0, n_Give_init, p_Give_init)
  | 35 => some (24, some 1, n_Give_parts, p_Give_parts)
  | 36 => some (24, some 2, n_Give_rebuilt, p_Give_rebuilt)
  | 37 => some (24, some 3, n_Give_told, p_Give_told)
  | 39 => some (25, some 0, n_Sum_init, p_Sum_init)
  | 40 => some (25, some 1, n_Sum_parts, p_Sum_parts)
  | 41 => some (25, some 2, n_Sum_rebuilt, p_Sum_rebuilt)
  | 42 => some (25, some 3, n_Sum_told, p_Sum_told)
  | 44 => some (26, some 0, n_Choice_init, p_Choice_init)
  | 45 => some (26, some 1, n_Choice_parts, p_Choice_parts)
  | 46 => some (26, some 2, n_Choice_rebuilt, p_Choice_rebuilt)
  | 47 => some (26, some 3, n_Choice_told, p_Choice_told)
  | 49 => some (27, some 0, n_Again_init, p_Again_init)
  | 50 => some (27, some 1, n_Again_parts, p_Again_parts)
  | 51 => some (27, some 2, n_Again_rebuilt, p_Again_rebuilt)
  | 52 => some (27, some 3, n_Again_binds, p_Again_binds)
  | 53 => some (27, some 4, n_Again_told, p_Again_told)
  | 55 => some (28, none, n_must_be_closed, p_must_be_closed)
  | 72 => some (30, some 0, n_Late_init, p_Late_init)
  | 73 => some (31, none, n_is_beyond, p_is_beyond)
  | 74 => some (32, none, n_measured, p_measured)
  | 75 => some (33, none, n_read_back, p_read_back)
  | 61 => some (36, none, n_term_of, p_term_of)
  | 62 => some (38, none, n_sum_of, p_sum_of)
  | 80 => some (41, some 0, n_GivenWait_init, p_GivenWait_init)
  | 81 => some (41, some 1, n_GivenWait_sort_for, p_GivenWait_sort_for)
  | 82 => some (41, some 2, n_GivenWait_after, p_GivenWait_after)
  | 83 => some (41, some 3, n_GivenWait_grown, p_GivenWait_grown)
  | 84 => some (41, some 4, n_GivenWait_around, p_GivenWait_around)
  | 85 => some (42, some 0, n_OtherWait_init, p_OtherWait_init)
  | 86 => some (42, some 1, n_OtherWait_sort_for, p_OtherWait_sort_for)
  | 87 => some (42, some 2, n_OtherWait_after, p_OtherWait_after)
  | 88 => some (42, some 3, n_OtherWait_grown, p_OtherWait_grown)
  | 89 => some (42, some 4, n_OtherWait_around, p_OtherWait_around)
  | 90 => some (43, some 0, n_NumberWait_init, p_NumberWait_init)
  | 91 => some (43, some 1, n_NumberWait_sort_for, p_NumberWait_sort_for)
  | 92 => some (43, some 2, n_NumberWait_after, p_NumberWait_after)
  | 93 => some (43, some 3, n_NumberWait_grown, p_NumberWait_grown)
  | 94 => some (43, some 4, n_NumberWait_around, p_NumberWait_around)
  | 95 => some (44, some 0, n_ChoiceWait_init, p_ChoiceWait_init)
  | 96 => some (44, some 1, n_ChoiceWait_sort_for, p_ChoiceWait_sort_for)
  | 97 => some (44, some 2, n_ChoiceWait_after, p_ChoiceWait_after)
  | 98 => some (44, some 3, n_ChoiceWait_grown, p_ChoiceWait_grown)
  | 99 => some (44, some 4, n_ChoiceWait_around, p_ChoiceWait_around)
  | 100 => some (47, some 0, n_State_init, p_State_init)
  | 101 => some (47, some 1, n_State_next_sort, p_State_next_sort)
  | 102 => some (47, some 2, n_State_how, p_State_how)
  | 103 => some (47, some 3, n_State_step, p_State_step)
  | 104 => some (47, some 4, n_State_came, p_State_came)
  | 105 => some (47, some 5, n_State_height, p_State_height)
  | 106 => some (47, some 6, n_State_shown, p_State_shown)
  | 107 => some (48, none, n_opened, p_opened)
  | 108 => some (49, none, n_looked, p_looked)
  | 109 => some (50, none, n_turned, p_turned)
  | 110 => some (51, none, n_went_on, p_went_on)
  | 111 => some (53, none, n_first_state, p_first_state)
  | 112 => some (54, none, n_machine_run, p_machine_run)
  | 116 => some (56, none, n_tally_with, p_tally_with)
  | 219 => some (59, some 0, n_Bench_init, p_Bench_init)
  | 220 => some (59, some 1, n_Bench_forth, p_Bench_forth)
  | 221 => some (59, some 2, n_Bench_is_next, p_Bench_is_next)
  | 222 => some (59, some 3, n_Bench_back, p_Bench_back)
  | 223 => some (59, some 4, n_Bench_done, p_Bench_done)
  | 224 => some (59, some 5, n_Bench_how, p_Bench_how)
  | 225 => some (59, some 6, n_Bench_came, p_Bench_came)
  | 226 => some (59, some 7, n_Bench_height, p_Bench_height)
  | 227 => some (59, some 8, n_Bench_shown, p_Bench_shown)
  | 228 => some (59, some 9, n_Bench_tally, p_Bench_tally)
  | 229 => some (59, some 10, n_Bench_mark, p_Bench_mark)
  | 230 => some (59, some 11, n_Bench_to, p_Bench_to)
  | 231 => some (59, some 12, n_Bench_marks, p_Bench_marks)
  | 232 => some (59, some 13, n_Bench_twin, p_Bench_twin)
  | 300 => some (61, none, n__law_state, p__law_state)
  | 301 => some (62, none, n__law_draw, p__law_draw)
  | 302 => some (63, none, n__law_name, p__law_name)
  | 303 => some (64, none, n__law_number, p__law_number)
  | 304 => some (65, none, n__law_leaf, p__law_leaf)
  | 305 => some (66, none, n__law_any, p__law_any)
  | 306 => some (67, none, n__law_doubled, p__law_doubled)
  | 307 => some (68, none, n__law_term, p__law_term)
  | 308 => some (69, none, n__law_shown, p__law_shown)
  | 309 => some (70, none, n__law_stands, p__law_stands)
  | 310 => some (71, none, n__law_marks, p__law_marks)
  | 311 => some (72, none, n__law_done, p__law_done)
  | 312 => some (73, none, n__law_right, p__law_right)
  | 313 => some (74, none, n_law, p_law)
  | _ => none
def fidL : List Nat := [4, 5, 6, 7, 8, 9, 10, 12, 19, 20, 21, 23, 25, 26, 28, 29, 30, 31, 32, 34, 35, 36, 37, 39, 40, 41, 42, 44, 45, 46, 47, 49, 50, 51, 52, 53, 55, 61, 62, 72, 73, 74, 75, 80, 81, 82, 83, 84, 85, 86, 87, 88, 89, 90, 91, 92, 93, 94, 95, 96, 97, 98, 99, 100, 101, 102, 103, 104, 105, 106, 107, 108, 109, 110, 111, 112, 116, 219, 220, 221, 222, 223, 224, 225, 226, 227, 228, 229, 230, 231, 232, 300, 301, 302, 303, 304, 305, 306, 307, 308, 309, 310, 311, 312, 313]
def cidL : List Nat := [0, 1, 2, 4, 5, 8, 14, 15, 16, 17, 18, 19, 20, 21, 22, 23, 24, 25, 26, 27, 28, 29, 40]
def methL : List (Nat × Nat) := [(14, 0), (14, 1), (14, 2), (14, 3), (14, 5), (15, 0), (15, 1), (15, 2), (15, 3), (15, 5), (16, 0), (16, 1), (16, 2), (16, 3), (16, 5), (17, 0), (17, 1), (17, 2), (17, 3), (17, 5), (18, 0), (18, 1), (18, 2), (18, 3), (18, 5), (19, 0), (19, 1), (19, 2), (19, 3), (19, 5), (20, 0), (20, 1), (20, 2), (20, 3), (20, 5), (21, 0), (21, 1), (21, 2), (21, 3), (21, 5), (22, 0), (22, 1), (22, 2), (22, 3), (22, 5), (25, 12), (25, 13), (25, 14), (25, 15), (26, 12), (26, 13), (26, 14), (26, 15), (27, 12), (27, 13), (27, 14), (27, 15), (28, 12), (28, 13), (28, 14), (28, 15), (29, 16), (29, 17), (29, 18), (29, 19), (29, 20), (29, 21), (40, 17), (40, 19), (40, 20), (40, 21), (40, 54), (40, 59), (40, 60), (40, 61), (40, 62), (40, 63), (40, 64), (40, 65), (40, 66)]
def gcL : List Nat := [0, 1, 2, 3, 4, 5, 11, 100, 101]
def lawI : Nat := 74
def prog : Program := PySem.Challenge.pw_usetally_k70_twins_apart
def names0 : List PySem.Str := ["_wall", "__name__", "TallyError", "BadTerm", "BadName", "NoStep", "TooGreat", "NoMark", "NotClosed", "LETTERS", "MOST_LETTERS", "SUMS", "MOST_PLACES", "MOST_DEEP", "is_name", "is_whole", "need_name", "Term", "need_terms", "Open", "Name", "Number", "Maker", "Give", "Sum", "Choice", "Again", "must_be_closed", "Late", "is_beyond"]
def names1 : List PySem.Str := ["measured", "read_back", "LENGTHS", "term_of", "sum_of", "Waiting", "GivenWait", "OtherWait", "NumberWait", "ChoiceWait", "SORTS", "State", "opened", "looked", "turned", "went_on", "DEEDS", "first_state", "machine_run", "tally_with", "MOST_DONE", "Bench", "_law_state", "_law_draw", "_law_name", "_law_number", "_law_leaf", "_law_any", "_law_doubled", "_law_term"]
def names2 : List PySem.Str := ["_law_shown", "_law_stands", "_law_marks", "_law_done", "_law_right"]
def names : List PySem.Str := names0 ++ names1 ++ names2
def qualOf : Str × Option Str → Str
  | (x, none) => x
  | (c, some m) => ⟨(c.cps.toList ++ 46 :: m.cps.toList).toArray⟩
def dvOf : PV → He.Dv
  | .int i => .int i
  | .str z => .str z
  | .bl b => .bl b
  | _ => .non
def defOf : Stmt → Option (Str × Arguments × List Stmt × Scope)
  | .FunctionDef n a b _ _ _ s _ _ _ => some (n, a, b, s)
  | _ => none
def infoAt (i : Nat) (j : Option Nat) : Option (Str × Arguments × List Stmt × Scope) := match prog.main.body[i]?, j with
  | some s, none => defOf s
  | some (.ClassDef _ _ _ b _ _ _ _ _ _ _), some j => b[j]?.bind defOf
  | _, _ => none
def ddOf (f : Nat) : Option He.DefD := match places f, tab.fns f with
  | some (i, j, _), some fd => (infoAt i j).map fun q => ⟨wd.fat f, q.1, qualOf (wd.fat f), q.2.1, q.2.2.1, q.2.2.2, fd.dfl.map dvOf, []⟩
  | _, _ => none
def fnl : List He.DefD := fidL.filterMap ddOf
abbrev rwL := PySem.Challenge.rw_usetally_k70_twins_apart
end U
set_option maxHeartbeats 0
namespace U
open PySem PySem.W PySem.Calls PyProof.Rows
abbrev Rw : OpenRow := OpenLaw.row rwL
abbrev qv : Program := view Rw.prog [lawI]
abbrev hk : PySem.W.Hook := hookU wd fnl cidL methL fidL gcL
def ob (s : PySem.W.SharedT) : He.AlT × Bool := obsU wd fnl cidL methL fidL gcL (HandSHeadRun.getT s)
end U
namespace U
open PySem PySem.W PySem.Calls PyProof.Rows
theorem runF (w : World) : HandSHeadRun.RunEq Rw qv hk ob 12000 names (w.withFollow "special-get-raises" false) := by
  intro os
  kernel_rfl
end U
namespace U
open PySem PySem.W PySem.Calls PyProof.Rows
theorem runT (w : World) : HandSHeadRun.RunEq Rw qv hk ob 12000 names (w.withFollow "special-get-raises" true) := by
  intro os
  kernel_rfl
end U
namespace U
open PySem L2
variable (ev : Ev)
def putO (fs : FS) (a : Nat) (o : HB) : FS := { fs with hp := fs.hp.set a o }
def putS (fs : FS) (i : Nat) (s : Sl) : FS := { fs with sl := fs.sl.set i s }
def newO (fs : FS) (o : HB) : R FS PV := .ok (.obj fs.hp.length) { fs with hp := fs.hp ++ [o] }
def frzS (fs : FS) (i : Nat) : R FS PV := match fs.sl[i]? with
  | some (.lst xs) => .ok (.lst xs) (fs.set i (.lst xs))
  | some (.dic kvs) => .ok (.dic (kvs.map (·.1)) (kvs.map (·.2))) (fs.set i (.dic (kvs.map (·.1)) (kvs.map (·.2))))
  | _ => .no
def fldV (G : Tab) (h : Hb) (v : PV) (k : Nat) : Option PV := match v with
  | .ins c vs => (G.cls c).bind fun cl => fIx cl.flds vs k
  | .obj a => match h[a]? with
    | some (.ins _ fs) => fGet fs k
    | _ => none
  | _ => none
/-- a new instance by its class's own __init__ -/
def mkF (c : Nat) (vs : List PV) (fs : FS) : R FS PV := match ev.G.cls c with
  | some cl => if cl.exc = true then .no else match cl.froz, cl.init with
    | true, some f => match initFn ev.G f c with
      | true => (ev.runI f (dft ev.G f vs) fs.hp).upI fs
      | false => .no
    | true, none => if vs.length = 0 then .ok (.ins c []) fs else .no
    | false, _ => .no
  | none => .no
def mkH (c : Nat) (vs : List PV) (fs : FS) : R FS PV := match ev.G.cls c with
  | some cl => if cl.exc = true then .no else match cl.froz, cl.init with
    | false, some f => match plainFn ev.G f with
      | true => match ev.runI f (dft ev.G f (.obj fs.hp.length :: vs)) (fs.hp ++ [.ins c []]) with
        | .ok .non h => .ok (.obj fs.hp.length) { fs with hp := h }
        | .ok _ _ => .no
        | .ex d ws h => .ex d ws { fs with hp := h }
        | .no => .no
      | false => .no
    | _, _ => .no
  | none => .no
/-- the method that a receiver has -/
def mfind (G : Tab) (h : Hb) (x : PV) (m : Nat) : Option Nat := match clOf h x with
  | some c => G.meth c m
  | none => none
/-- a method's receiver, looked at ahead of the arguments -/
def isLst (h : Hb) : PV → Bool
  | .obj a => match h[a]? with
    | some (.lst _) => true
    | _ => false
  | _ => false
def slLst (fs : FS) (i : Nat) : Bool := match fs.sl[i]? with
  | some (.lst _) => true
  | _ => false
def bmOk (m : BM) (h : Hb) (x : PV) : Bool := match m with
  | .join => match x with
    | .str _ => true
    | _ => false
  | .get1 => (asD h x).isSome
  | .get2 => (asD h x).isSome
  | _ => (asL h x).isSome
def mutO (m : MM) (v : PV) (vs : List PV) (fs : FS) : R FS PV := match v with
  | .obj a => match fs.hp[a]? with
    | some (.lst xs) => match evMM m fs.hp xs vs with
      | some (y, ys) => .ok y (putO fs a (.lst ys))
      | none => .no
    | _ => .no
  | _ => .no
def mutS (m : MM) (i : Nat) (vs : List PV) (fs : FS) : R FS PV := match fs.sl[i]? with
  | some (.lst xs) => match evMM m fs.hp xs vs with
    | some (y, ys) => .ok y (putS fs i (.lst ys))
    | none => .no
  | _ => .no
def getL : R FS PV → R FS (List PV)
  | .ok (.lst xs) fs => .ok xs fs
  | .ok _ _ => .no
  | .ex c vs fs => .ex c vs fs
  | .no => .no
def getD : R FS PV → R FS (List (Key × PV))
  | .ok (.dic ks vs) fs => .ok (zipD ks vs) fs
  | .ok _ _ => .no
  | .ex c vs fs => .ex c vs fs
  | .no => .no
def pcall (f : Nat) (vs : List PV) (fs : FS) : R FS PV := match plainFn ev.G f with
  | true => (ev.run f (dft ev.G f vs) fs.hp).up fs
  | false => .no
def fcall (f : Nat) (vs : List PV) (fs : FS) : R FS PV := match freshFn ev.G f with
  | true => (ev.run f (dft ev.G f vs) fs.hp).up fs
  | false => .no
mutual
def evE : E → FS → R FS PV
  | .var i, fs => .opt fs (fs.get i)
  | .frz i, fs => frzS fs i
  | .int i, fs => .ok (.int i) fs
  | .str s, fs => .ok (.str s) fs
  | .bl b, fs => .ok (.bl b) fs
  | .non, fs => .ok .non fs
  | .gcls c, fs => .ok (.cls c) fs
  | .gfn f, fs => .ok (.fn f) fs
  | .gc g, fs => .opt fs (ev.G.gcs g)
  | .tup es, fs => (evEs es fs).bind fun vs fs => if vs.length ≤ sizeLine then .ok (.tup vs) fs else .no
  | .lst l, fs => (evL l fs).bind fun xs fs => .ok (.lst xs) fs
  | .hlst l, fs => (evL l fs).bind fun xs fs => newO fs (.lst xs)
  | .dic d, fs => (evD d fs).bind fun kvs fs => .ok (.dic (kvs.map (·.1)) (kvs.map (·.2))) fs
  | .hdic d, fs => (evD d fs).bind fun kvs fs => newO fs (.dic kvs)
  | .bin o a b, fs => (evE a fs).bind fun x fs => (evE b fs).bind fun y fs => .opt fs (evBin o x y)
  | .neg a, fs => (evE a fs).bind fun x fs => match x with
    | .int i => .ok (.int (-i)) fs
    | _ => .no
  | .cmp o a b, fs => (evE a fs).bind fun x fs => (evE b fs).bind fun y fs => .opt fs ((evCmp o fs.hp x y).map .bl)
  | .chn o o' a b c, fs => (evE a fs).bind fun x fs => (evE b fs).bind fun y fs => match evCmp o fs.hp x y with
    | some true => (evE c fs).bind fun z fs => .opt fs ((evCmp o' fs.hp y z).map .bl)
    | some false => .ok (.bl false) fs
    | none => .no
  | .andv a b, fs => (evE a fs).bind fun x fs => match x with
    | .bl true => evE b fs
    | .bl false => .ok (.bl false) fs
    | _ => .no
  | .orv a b, fs => (evE a fs).bind fun x fs => match x with
    | .bl true => .ok (.bl true) fs
    | .bl false => evE b fs
    | _ => .no
  | .notv a, fs => (evE a fs).bind fun x fs => match x with
    | .bl k => .ok (.bl (!k)) fs
    | _ => .no
  | .isn a neg, fs => (evE a fs).bind fun x fs => match x with
    | .non => .ok (.bl (!neg)) fs
    | _ => .ok (.bl neg) fs
  | .ifx t a b, fs => (evT t fs).bind fun k fs => match k with
    | true => evE a fs
    | false => evE b fs
  | .fld a k, fs => (evE a fs).bind fun x fs => .opt fs (fldV ev.G fs.hp x k)
  | .ix a b, fs => (evE a fs).bind fun x fs => (evE b fs).bind fun y fs => .opt fs (evIx fs.hp x y)
  | .sl a lo hi, fs => (evE a fs).bind fun x fs => (evO lo fs).bind fun i fs => (evO hi fs).bind fun j fs => .opt fs (evSl x i j)
  | .call f es, fs => (evEs es fs).bind fun vs fs => pcall ev f vs fs
  | .callv a es, fs => (evE a fs).bind fun x fs => match x with
    | .fn f => match plainFn ev.G f with
      | true => (evEs es fs).bind fun vs fs => pcall ev f vs fs
      | false => .no
    | _ => .no
  | .mk c es, fs => (evEs es fs).bind fun vs fs => mkF ev c vs fs
  | .mkh c es, fs => (evEs es fs).bind fun vs fs => mkH ev c vs fs
  | .meth a m es, fs => (evE a fs).bind fun x fs => match mfind ev.G fs.hp x m with
    | some f => (evEs es fs).bind fun vs fs => pcall ev f (x :: vs) fs
    | none => .no
  | .bf b es, fs => (evEs es fs).bind fun vs fs => .opt fs (evBF b fs.hp vs)
  | .bm m a es, fs => (evE a fs).bind fun x fs => match bmOk m fs.hp x with
    | true => (evEs es fs).bind fun vs fs => .opt fs (evBM m fs.hp x vs)
    | false => .no
  | .get2 a b d, fs => (evE a fs).bind fun x fs => match (asD fs.hp x).isSome with
    | true => (evE b fs).bind fun y fs => (evE d fs).bind fun z fs => .opt fs (getO fs.hp x y z)
    | false => .no
  | .mm m a es, fs => (evE a fs).bind fun x fs => match isLst fs.hp x with
    | true => (evEs es fs).bind fun vs fs => mutO m x vs fs
    | false => .no
  | .mo m i es, fs => match slLst fs i with
    | true => (evEs es fs).bind fun vs fs => mutS m i vs fs
    | false => .no
  | .isi a cs, fs => (evE a fs).bind fun x fs => .opt fs ((isAny ev.G fs.hp x cs).map .bl)
def evO : O → FS → R FS (Option Int)
  | .n, fs => .ok none fs
  | .e a, fs => (evE a fs).bind fun x fs => match x with
    | .int i => .ok (some i) fs
    | _ => .no
def evEs : Es → FS → R FS (List PV)
  | .nil, fs => .ok [] fs
  | .cons e es, fs => (evE e fs).bind fun v fs => (evEs es fs).bind fun vs fs => .ok (v :: vs) fs
def evL : LE → FS → R FS (List PV)
  | .disp es, fs => (evEs es fs).bind fun vs fs => if vs.length ≤ sizeLine then .ok vs fs else .no
  | .comp elt tg it w ts, fs => (evI it fs).bind fun xs fs =>
    match cmpN (fun x f => match asg tg x f with
        | some f => (evTs ts f).bind fun k f => match k with
          | true => (evE elt f).bind fun v f => .ok (some v) f
          | false => .ok none f
        | none => .no) xs fs.hp (blk fs w).sl [] with
    | .ok ys h => .ok ys { fs with hp := h }
    | _ => .no
  | .of a, fs => (evE a fs).bind fun x fs => .opt fs (asOf fs.hp x)
  | .sl a lo hi, fs => (evE a fs).bind fun x fs => (evO lo fs).bind fun i fs => (evO hi fs).bind fun j fs => .opt fs ((asL fs.hp x).map fun xs => cut xs i j)
  | .cat a b, fs => (evE a fs).bind fun x fs => (evE b fs).bind fun y fs => .opt fs ((asL fs.hp x).bind fun xs => (asL fs.hp y).bind fun ys => if xs.length + ys.length ≤ sizeLine then some (xs ++ ys) else none)
  | .rep a b, fs => (evE a fs).bind fun x fs => (evE b fs).bind fun y fs => match y with
    | .int n => .opt fs ((asL fs.hp x).bind fun xs => if 0 ≤ n ∧ n ≤ 1000 ∧ xs.length ≤ 1000 then some (List.replicate n.toNat xs).flatten else none)
    | _ => .no
  | .srtd a, fs => (evE a fs).bind fun x fs => .opt fs ((asD fs.hp x).bind fun kvs => (txts (kvs.map fun kv => keyV kv.1)).bind fun ts => if ts.length < 64 then some ((sortT ts).map .str) else none)
  | .srts a, fs => (evE a fs).bind fun x fs => .opt fs ((asL fs.hp x).bind fun xs => (txts xs).bind fun ts => if ts.length < 4000 ∧ (dedupT ts).length < 64 then some ((sortT (dedupT ts)).map .str) else none)
  | .rvs a, fs => (evE a fs).bind fun x fs => .opt fs ((asL fs.hp x).map List.reverse)
  | .vals a, fs => (evE a fs).bind fun x fs => .opt fs ((asD fs.hp x).map fun kvs => kvs.map (·.2))
  | .call f es, fs => (evEs es fs).bind fun vs fs => getL (fcall ev f vs fs)
  | .meth a m es, fs => (evE a fs).bind fun x fs => match mfind ev.G fs.hp x m with
    | some f => (evEs es fs).bind fun vs fs => getL (fcall ev f (x :: vs) fs)
    | none => .no
def evD : DE → FS → R FS (List (Key × PV))
  | .emp, fs => .ok [] fs
  | .disp ds, fs => (evDs ds fs).bind fun kvs fs => if kvs.length ≤ 15 then .ok (kvs.foldl (fun acc kv => dPut acc kv.1 kv.2) []) fs else .no
  | .of a, fs => (evE a fs).bind fun x fs => .opt fs (asD fs.hp x)
  | .call f es, fs => (evEs es fs).bind fun vs fs => getD (fcall ev f vs fs)
  | .meth a m es, fs => (evE a fs).bind fun x fs => match mfind ev.G fs.hp x m with
    | some f => (evEs es fs).bind fun vs fs => getD (fcall ev f (x :: vs) fs)
    | none => .no
def evDs : Ds → FS → R FS (List (Key × PV))
  | .nil, fs => .ok [] fs
  | .cons k v ds, fs => (evE k fs).bind fun x fs => (evE v fs).bind fun y fs => (evDs ds fs).bind fun r fs => match keyOf x with
    | some j => .ok ((j, y) :: r) fs
    | none => .no
def evT : T → FS → R FS Bool
  | .v e, fs => (evE e fs).bind fun x fs => match x with
    | .bl k => .ok k fs
    | _ => .no
  | .cmp o a b, fs => (evE a fs).bind fun x fs => (evE b fs).bind fun y fs => .opt fs (evCmp o fs.hp x y)
  | .chn o o' a b c, fs => (evE a fs).bind fun x fs => (evE b fs).bind fun y fs => match evCmp o fs.hp x y with
    | some true => (evE c fs).bind fun z fs => .opt fs (evCmp o' fs.hp y z)
    | some false => .ok false fs
    | none => .no
  | .and_ a b, fs => (evT a fs).bind fun k fs => match k with
    | true => evT b fs
    | false => .ok false fs
  | .or_ a b, fs => (evT a fs).bind fun k fs => match k with
    | true => .ok true fs
    | false => evT b fs
  | .not_ a, fs => (evT a fs).bind fun k fs => .ok (!k) fs
def evTs : Ts → FS → R FS Bool
  | .nil, fs => .ok true fs
  | .cons t ts, fs => (evT t fs).bind fun k fs => match k with
    | true => evTs ts fs
    | false => .ok false fs
def evI : IE → FS → R FS (List PV)
  | .v a, fs => (evE a fs).bind fun x fs => .opt fs (asIt x)
  | .rng1 a, fs => (evE a fs).bind fun x fs => match x with
    | .int n => if -(2 ^ 62) ≤ n ∧ n < 2 ^ 62 then .ok (range0 n.toNat 0) fs else .no
    | _ => .no
  | .rng2 a b, fs => (evE a fs).bind fun x fs => (evE b fs).bind fun y fs => match x, y with
    | .int i, .int j => if -(2 ^ 62) ≤ i ∧ i < 2 ^ 62 ∧ -(2 ^ 62) ≤ j ∧ j < 2 ^ 62 then .ok (range0 (j - i).toNat i) fs else .no
    | _, _ => .no
  | .rev a, fs => (evE a fs).bind fun x fs => .opt fs ((asRv x).map List.reverse)
end
end U
namespace U
open PySem L2
variable (ev : Ev)
def putF' (G : Tab) (v : PV) (k : Nat) (y : PV) (fs : FS) : R FS Fl := match v with
  | .obj a => match fs.hp[a]? with
    | some (.ins c fl) => match G.cls c with
      | some cl => if cl.exc = false ∧ fl.length < 900 ∧ k ∈ cl.flds then .ok .nx (putO fs a (.ins c (fPut fl k y))) else .no
      | none => .no
    | _ => .no
  | _ => .no
def putR (G : Tab) (k : Nat) (y : PV) (fs : FS) : R FS Fl := match fs.sl[0]? with
  | some (Sl.own c fl) => match G.cls c with
    | some cl => if cl.exc = false ∧ fl.length < 900 ∧ k ∈ cl.flds then .ok .nx (putS fs 0 (.own c (fPut fl k y))) else .no
    | none => .no
  | _ => .no
def putI (x y v : PV) (fs : FS) : R FS Fl := match x with
  | .obj a => match fs.hp[a]? with
    | some (.lst xs) => match y with
      | .int i => match ixN xs.length i with
        | some j => .ok .nx (putO fs a (.lst (xs.set j v)))
        | none => .no
      | _ => .no
    | some (.dic kvs) => match keyOf y with
      | some k => if kvs.length < 10000 then .ok .nx (putO fs a (.dic (dPut kvs k v))) else .no
      | none => .no
    | _ => .no
  | _ => .no
def putJ (i : Nat) (y v : PV) (fs : FS) : R FS Fl := match fs.sl[i]? with
  | some (.lst xs) => match y with
    | .int n => match ixN xs.length n with
      | some j => .ok .nx (putS fs i (.lst (xs.set j v)))
      | none => .no
    | _ => .no
  | some (.dic kvs) => match keyOf y with
    | some k => if kvs.length < 10000 then .ok .nx (putS fs i (.dic (dPut kvs k v))) else .no
    | none => .no
  | _ => .no
def slOwn (fs : FS) (i : Nat) : Bool := match fs.sl[i]? with
  | some (.lst _) => true
  | some (.dic _) => true
  | _ => false
def putJD (i : Nat) (y v : PV) (fs : FS) : R FS Fl := match fs.sl[i]? with
  | some (.dic kvs) => match keyOf y with
    | some k => if kvs.length < 10000 then .ok .nx (putS fs i (.dic (dPut kvs k v))) else .no
    | none => .no
  | _ => .no
def ownI (i : Nat) (y : PV) (fs : FS) : Option PV := match fs.sl[i]? with
  | some (.dic kvs) => (keyOf y).bind fun k => dGet kvs k
  | _ => none
/-- who catches: no answer, nobody, a handler -/
def caught (G : Tab) (c : Nat) : List Hd → Option (Option (Option Nat × Hx))
  | [] => some none
  | .mk d as x :: hs => match G.cls c with
    | some cl => match cl.exc, cl.sups.contains d with
      | true, true => some (some (as, x))
      | true, false => caught G c hs
      | false, _ => none
    | none => none
def runHx (fs : FS) : Hx → R FS Fl
  | .set i v => .ok .nx (fs.set i v)
  | .ret v => .ok (.rt v) fs
mutual
def evS : S → FS → R FS Fl
  | .ex e, fs => (evE ev e fs).bind fun _ fs => .ok .nx fs
  | .set i e, fs => (evE ev e fs).bind fun v fs => .ok .nx (fs.set i v)
  | .setl i l, fs => (evL ev l fs).bind fun xs fs => .ok .nx (putS fs i (.lst xs))
  | .setd i d, fs => (evD ev d fs).bind fun kvs fs => .ok .nx (putS fs i (.dic kvs))
  | .unp is e, fs => (evE ev e fs).bind fun v fs => match v with
    | .tup vs => match setAll is vs fs with
      | some fs => .ok .nx fs
      | none => .no
    | _ => .no
  | .par2 i j a b, fs => (evE ev a fs).bind fun x fs => (evE ev b fs).bind fun y fs => .ok .nx ((fs.set i x).set j y)
  | .setf a k e, fs => (evE ev e fs).bind fun y fs => (evE ev a fs).bind fun x fs => putF' ev.G x k y fs
  | .setr k e, fs => (evE ev e fs).bind fun y fs => putR ev.G k y fs
  | .seti a b e, fs => (evE ev e fs).bind fun v fs => (evE ev a fs).bind fun x fs => (evE ev b fs).bind fun y fs => putI x y v fs
  | .seto i b e, fs => (evE ev e fs).bind fun v fs => match slOwn fs i with
    | true => (evE ev b fs).bind fun y fs => putJ i y v fs
    | false => .no
  | .aug i o e, fs => match fs.get i with
    | some x => (evE ev e fs).bind fun y fs => match evAug o x y with
      | some z => .ok .nx (fs.set i z)
      | none => .no
    | none => .no
  | .augf a k o e, fs => (evE ev a fs).bind fun x fs => match fldV ev.G fs.hp x k with
    | some v => (evE ev e fs).bind fun y fs1 => if clOf fs1.hp x = clOf fs.hp x then (match evAug o v y with
      | some z => putF' ev.G x k z fs1
      | none => .no) else .no
    | none => .no
  | .augi a b o e, fs => (evE ev a fs).bind fun x fs => (evE ev b fs).bind fun i fs => match evIx fs.hp x i with
    | some v => (evE ev e fs).bind fun y fs => match evAug o v y with
      | some z => putI x i z fs
      | none => .no
    | none => .no
  | .augo j b o e, fs => match slOwn fs j with
    | true => (evE ev b fs).bind fun i fs => match ownI j i fs with
      | some v => (evE ev e fs).bind fun y fs => match evAug o v y with
        | some z => putJD j i z fs
        | none => .no
      | none => .no
    | false => .no
  | .ite t x y, fs => (evT ev t fs).bind fun k fs => match k with
    | true => evSs x fs
    | false => evSs y fs
  | .whl t x, fs => whlN (evT ev t) (evSs x) ev.wf fs
  | .for_ tg it x, fs => (evI ev it fs).bind fun xs fs => forN (fun v f => match asg tg v f with
    | some f => evSs x f
    | none => .no) xs fs
  | .ret e, fs => (evE ev e fs).bind fun v fs => .ok (.rt v) fs
  | .retl l, fs => (evL ev l fs).bind fun xs fs => .ok (.rt (.lst xs)) fs
  | .retd d, fs => (evD ev d fs).bind fun kvs fs => .ok (.rt (.dic (kvs.map (·.1)) (kvs.map (·.2)))) fs
  | .reto i, fs => (frzS fs i).bind fun v fs => .ok (.rt v) fs
  | .retn, fs => .ok (.rt .non) fs
  | .brk, fs => .ok .bk fs
  | .cnt, fs => .ok .ct fs
  | .pas, fs => .ok .nx fs
  | .nev, _ => .no
  | .rse c es, fs => (evEs ev es fs).bind fun vs fs => match ev.G.cls c with
    | some cl => .ex c (if cl.flds.length = 0 then [] else vs) fs
    | none => .no
  | .try_ x hs, fs => match evSs x fs with
    | .ex c vs fs => match caught ev.G c hs with
      | some (some (none, hx)) => runHx fs hx
      | some none => .ex c vs fs
      | _ => .no
    | r => r
def evSs : Ss → FS → R FS Fl
  | .nil, fs => .ok .nx fs
  | .cons s ss, fs => match evS s fs with
    | .ok .nx fs => evSs ss fs
    | r => r
end
/-- a def's body, to its end -/
def body (fd : Fd) (vs : List PV) (h : Hb) : R Hb PV := match fd.kind with
  | none => if vs.length = fd.np then (match evSs ev fd.body { sl := vs.map .val ++ List.replicate (fd.ns - fd.np) .un, hp := h } with
      | .ok .nx fs => .ok .non fs.hp
      | .ok (.rt v) fs => .ok v fs.hp
      | .ok .bk _ => .no
      | .ok .ct _ => .no
      | .ex c ws fs => .ex c ws fs.hp
      | .no => .no) else .no
  | some c => if vs.length = fd.np then (match evSs ev fd.body { sl := .own c [] :: (vs.map .val ++ List.replicate (fd.ns - 1 - fd.np) .un), hp := h } with
      | .ok .nx fs => match fs.sl[0]?, ev.G.cls c with
        | some (Sl.own d fl), some cl => if d = c ∧ fl.map (·.1) = cl.flds then .ok (.ins c (fl.map (·.2))) fs.hp else .no
        | _, _ => .no
      | .ok _ _ => .no
      | .ex c ws fs => .ex c ws fs.hp
      | .no => .no) else .no
/-- the program, at most d calls within one another; at d - 1 -/
def runs (G : Tab) (wf : Nat) : Nat → Cal × Cal
  | 0 => (fun _ _ _ => .no, fun _ _ _ => .no)
  | d + 1 => (fun f vs h => match G.fns f with
      | some fd => body ⟨G, (runs G wf d).1, (runs G wf d).2, wf⟩ fd vs h
      | none => .no, (runs G wf d).1)
def run (G : Tab) (wf d : Nat) : Cal := (runs G wf d).1
theorem run_succ (G : Tab) (wf d f : Nat) (vs : List PV) (h : Hb) : run G wf (d + 1) f vs h = (match G.fns f with
      | some fd => body ⟨G, run G wf d, run G wf (d - 1), wf⟩ fd vs h
      | none => .no) := by
  cases d <;> rfl
end U
namespace U
open PySem PySem.Spec L2
section
variable (W : Wd) (K : PySem.W.Frag) (w : World)
structure Syn where
  F : Addr → Prop
  rh : List Addr
/-- what needs no heap -/
inductive Rsc : V → PV → Prop
  | non : Rsc .non .non
  | bl (b : Bool) : Rsc (.bl b) (.bl b)
  | int (i : Int) : Rsc (.int i) (.int i)
  | str (x : Str) : Rsc (.str x) (.str x)
  | cls (c : Nat) : Rsc (.ref (ca W K c)) (.cls c)
  | fn (f : Nat) : Rsc (.ref (fa W K f)) (.fn f)
/-- a tuple of the written part -/
def KTup (p : Addr) (vs : List V) : Prop := ∀ H, SqT K H p vs
/-- a dict of the written part -/
structure KDic (p : Addr) (kvs : List (Key × PV)) : Prop where
  d : ∃ es n, KDict K w p es n
  g : ∀ z : Str, match dGet kvs (.inr z) with
    | some pv => ∃ u v, PySem.W.nsIn K p z = some (some u) ∧ RelV v u ∧ Rsc W K v pv
    | none => PySem.W.nsIn K p z = some none
  s : ∀ q ∈ kvs, ∃ z, q.1 = .inr z
mutual
inductive Rep (S : Syn) (H : Hp) : V → PV → Prop
  | sc {v : V} {x : PV} : Rsc W K v x → Rep S H v x
  | tup {p : Addr} {vs : List V} {xs : List PV} : S.F p → H p = some (.tup vs) → Reps S H vs xs → Rep S H (.ref p) (.tup xs)
  | ktup {p : Addr} {vs : List V} {xs : List PV} : KTup K p vs → Reps S H vs xs → Rep S H (.ref p) (.tup xs)
  | lst {p : Addr} {vs : List V} {xs : List PV} : S.F p → Rd H p (.lst vs) → Reps S H vs xs → Rep S H (.ref p) (.lst xs)
  | dic {p : Addr} {kvs : List (Key × V)} {ks : List Key} {xs : List PV} : S.F p → H p = some (.dK kvs) → kvs.map (·.1) = ks → Reps S H (kvs.map (·.2)) xs → Rep S H (.ref p) (.dic ks xs)
  | kdic {p : Addr} {ks : List Key} {xs : List PV} : KDic W K w p (zipD ks xs) → ks.length = xs.length → Rep S H (.ref p) (.kdc ks xs)
  | ins {p dx : Addr} {fs : List (Str × V)} {c : Nat} {cl : Cl} {xs : List PV} : S.F p → H p = some (.ins (ca W K c) dx fs) → W.G.cls c = some cl → fs.map (·.1) = cl.flds.map W.an → Reps S H (fs.map (·.2)) xs → Rep S H (.ref p) (.ins c xs)
  | obj {p : Addr} {a : Nat} : S.rh[a]? = some p → Rep S H (.ref p) (.obj a)
inductive Reps (S : Syn) (H : Hp) : List V → List PV → Prop
  | nil : Reps S H [] []
  | cons {v : V} {x : PV} {vs : List V} {xs : List PV} : Rep S H v x → Reps S H vs xs → Reps S H (v :: vs) (x :: xs)
end
end
/-- later: what is frozen stays, the places stay -/
structure Ext (S : Syn) (H : Hp) (S' : Syn) (H' : Hp) : Prop where
  F : ∀ p, S.F p → S'.F p
  h : ∀ p, S.F p → H' p = H p
  rh : ∀ (a : Nat) p, S.rh[a]? = some p → S'.rh[a]? = some p
section
variable {W : Wd} {K : PySem.W.Frag} {w : World} {S S' S2 : Syn} {H H' H2 : Hp} {v : V} {x : PV} {vs : List V} {xs : List PV}
theorem Ext.refl : Ext S H S H := ⟨fun _ h => h, fun _ _ => rfl, fun _ _ h => h⟩
theorem Ext.trans (a : Ext S H S' H') (b : Ext S' H' S2 H2) : Ext S H S2 H2 :=
  ⟨fun p h => b.F p (a.F p h), fun p h => (b.h p (a.F p h)).trans (a.h p h), fun i p h => b.rh i p (a.rh i p h)⟩
theorem rd_at {H H' : Hp} {p : Addr} {o : HO} (h : Rd H p o) (e : H' p = H p) : Rd H' p o := by
  rcases h with h | ⟨ob, h⟩
  · exact .inl (e.trans h)
  · exact .inr ⟨ob, e.trans h⟩
mutual
theorem Rep.ext (e : Ext S H S' H') : ∀ {v : V} {x : PV}, Rep W K w S H v x → Rep W K w S' H' v x
  | _, _, .sc h => .sc h
  | _, _, .tup f h r => .tup (e.F _ f) ((e.h _ f).trans h) (Reps.ext e r)
  | _, _, .ktup h r => .ktup h (Reps.ext e r)
  | _, _, .lst f h r => .lst (e.F _ f) (rd_at h (e.h _ f)) (Reps.ext e r)
  | _, _, .dic f h k r => .dic (e.F _ f) ((e.h _ f).trans h) k (Reps.ext e r)
  | _, _, .kdic h l => .kdic h l
  | _, _, .ins f h c n r => .ins (e.F _ f) ((e.h _ f).trans h) c n (Reps.ext e r)
  | _, _, .obj h => .obj (e.rh _ _ h)
theorem Reps.ext (e : Ext S H S' H') : ∀ {vs : List V} {xs : List PV}, Reps W K w S H vs xs → Reps W K w S' H' vs xs
  | _, _, .nil => .nil
  | _, _, .cons h r => .cons (Rep.ext e h) (Reps.ext e r)
end
theorem Reps.len : ∀ {vs : List V} {xs : List PV}, Reps W K w S H vs xs → vs.length = xs.length
  | _, _, .nil => rfl
  | _, _, .cons _ r => congrArg Nat.succ (Reps.len r)
theorem Reps.get : ∀ {vs : List V} {xs : List PV} (r : Reps W K w S H vs xs) (i : Nat) {x : PV}, xs[i]? = some x → ∃ v, vs[i]? = some v ∧ Rep W K w S H v x
  | _, _, .nil, _, _, h => by cases h
  | _, _, .cons h r, 0, _, e => by cases e; exact ⟨_, rfl, h⟩
  | _, _, .cons h r, i + 1, _, e => Reps.get r i e
theorem Reps.get' : ∀ {vs : List V} {xs : List PV} (r : Reps W K w S H vs xs) (i : Nat) {v : V}, vs[i]? = some v → ∃ x, xs[i]? = some x ∧ Rep W K w S H v x
  | _, _, .nil, _, _, h => by cases h
  | _, _, .cons h r, 0, _, e => by cases e; exact ⟨_, rfl, h⟩
  | _, _, .cons h r, i + 1, _, e => Reps.get' r i e
theorem Reps.app : ∀ {vs us : List V} {xs ys : List PV}, Reps W K w S H vs xs → Reps W K w S H us ys → Reps W K w S H (vs ++ us) (xs ++ ys)
  | _, _, _, _, .nil, s => s
  | _, _, _, _, .cons h r, s => .cons h (Reps.app r s)
theorem Reps.rev : ∀ {vs : List V} {xs : List PV}, Reps W K w S H vs xs → Reps W K w S H vs.reverse xs.reverse
  | _, _, .nil => .nil
  | _, _, .cons h r => by
    rw [List.reverse_cons, List.reverse_cons]
    exact Reps.app (Reps.rev r) (.cons h .nil)
theorem Reps.take (n : Nat) : ∀ {vs : List V} {xs : List PV}, Reps W K w S H vs xs → Reps W K w S H (vs.take n) (xs.take n) := by
  induction n with
  | zero => intro vs xs _; rw [List.take_zero, List.take_zero]; exact .nil
  | succ n ih => intro vs xs r; cases r with
    | nil => exact .nil
    | cons h r => exact .cons h (ih r)
theorem Reps.drop (n : Nat) : ∀ {vs : List V} {xs : List PV}, Reps W K w S H vs xs → Reps W K w S H (vs.drop n) (xs.drop n) := by
  induction n with
  | zero => intro vs xs r; exact r
  | succ n ih => intro vs xs r; cases r with
    | nil => exact .nil
    | cons h r => exact ih r
theorem Reps.set {v : V} {x : PV} (h : Rep W K w S H v x) : ∀ (i : Nat) {vs : List V} {xs : List PV}, Reps W K w S H vs xs → Reps W K w S H (vs.set i v) (xs.set i x)
  | _, _, _, .nil => .nil
  | 0, _, _, .cons _ r => .cons h r
  | i + 1, _, _, .cons g r => .cons g (Reps.set h i r)
theorem Reps.dropLast : ∀ {vs : List V} {xs : List PV}, Reps W K w S H vs xs → Reps W K w S H vs.dropLast xs.dropLast := fun {vs xs} r => by
  rw [List.dropLast_eq_take, List.dropLast_eq_take, r.len]
  exact r.take _
inductive ObA (W : Wd) (K : PySem.W.Frag) (w : World) (S : Syn) (H : Hp) (p : Addr) : HB → Prop
  | lst {vs : List V} {xs : List PV} : H p = some (.lst vs) → Reps W K w S H vs xs → ObA W K w S H p (.lst xs)
  | dic {kvs : List (Key × V)} {xs : List (Key × PV)} : H p = some (.dK kvs) → kvs.map (·.1) = xs.map (·.1) → Reps W K w S H (kvs.map (·.2)) (xs.map (·.2)) → ObA W K w S H p (.dic xs)
  | ins {dx : Addr} {fs : List (Str × V)} {c : Nat} {fl : List (Nat × PV)} : H p = some (.ins (ca W K c) dx fs) → fs.map (·.1) = fl.map (fun q => W.an q.1) → (∃ cl, W.G.cls c = some cl ∧ ∀ q ∈ fl, q.1 ∈ cl.flds) → Reps W K w S H (fs.map (·.2)) (fl.map (·.2)) → ObA W K w S H p (.ins c fl)
theorem ObA.ext {p : Addr} {o : HB} (e : Ext S H S' H') (hp : H' p = H p) (h : ObA W K w S H p o) : ObA W K w S' H' p o := by
  cases h with
  | lst a r => exact .lst (hp.trans a) (r.ext e)
  | dic a k r => exact .dic (hp.trans a) k (r.ext e)
  | ins a n l r => exact .ins (hp.trans a) n l (r.ext e)
theorem ObA.some {p : Addr} {o : HB} (h : ObA W K w S H p o) : ∃ u, H p = Option.some u := by
  cases h with
  | lst a r => exact ⟨_, a⟩
  | dic a k r => exact ⟨_, a⟩
  | ins a n l r => exact ⟨_, a⟩
structure HInv (W : Wd) (K : PySem.W.Frag) (w : World) (S : Syn) (h : Hb) (H : Hp) : Prop where
  len : S.rh.length = h.length
  nd : S.rh.Nodup
  dis : ∀ b ∈ S.rh, ¬ S.F b
  al : ∀ b, S.F b → H b ≠ none
  ob : ∀ (a : Nat) o p, h[a]? = some o → S.rh[a]? = some p → ObA W K w S H p o
/-- behind a call: what it may have changed -/
structure Rel (S : Syn) (H : Hp) (S' : Syn) (H' : Hp) : Prop where
  pre : ∀ (a : Nat) p, S.rh[a]? = some p → S'.rh[a]? = some p
  keep : ∀ b o, H b = some o → b ∉ S.rh → H' b = some o
  frz : ∀ b, H b ≠ none → (S'.F b ↔ S.F b)
  new : ∀ b ∈ S'.rh, b ∉ S.rh → H b = none
  al : ∀ b, H b ≠ none → H' b ≠ none
theorem Rel.refl : Rel S H S H := ⟨fun _ _ h => h, fun _ _ h _ => h, fun _ _ => Iff.rfl, fun _ h n => absurd h n, fun _ h => h⟩
theorem Rel.trans (a : Rel S H S' H') (b : Rel S' H' S2 H2) : Rel S H S2 H2 where
  pre := fun i p h => b.pre i p (a.pre i p h)
  keep := fun c o h n => b.keep c o (a.keep c o h n) fun m => by
    have := a.new c m n
    rw [h] at this; cases this
  frz := fun c h => (b.frz c (a.al c h)).trans (a.frz c h)
  new := fun c m n => by
    by_cases m1 : c ∈ S'.rh
    · exact a.new c m1 n
    · have z := b.new c m m1
      cases q : H c with
      | none => rfl
      | some o => exact absurd z (a.al c (by rw [q]; intro h; cases h))
  al := fun c h => b.al c (a.al c h)
theorem Rel.ext (a : Rel S H S' H') {h : Hb} (i : HInv W K w S h H) : Ext S H S' H' where
  F := fun p f => (a.frz p (i.al p f)).mpr f
  h := fun p f => by
    cases q : H p with
    | none => exact absurd q (i.al p f)
    | some o => exact a.keep p o q fun m => i.dis p m f
  rh := a.pre
structure Base where
  S : Syn
  H : Hp
  me : Addr := 0
/-- an address that a slot alone knows -/
def Ow (B : Base) (S : Syn) (p : Addr) : Prop := ¬ S.F p ∧ p ∉ S.rh ∧ B.H p = none
def isOwn : Sl → Bool
  | .un => false
  | .val _ => false
  | _ => true
inductive SlOk (W : Wd) (K : PySem.W.Frag) (w : World) (B : Base) (S : Syn) (H : Hp) : Option V → Sl → Prop
  | un {v : Option V} : SlOk W K w B S H v .un
  | val {v : V} {x : PV} : Rep W K w S H v x → SlOk W K w B S H (some v) (.val x)
  | lst {p : Addr} {vs : List V} {xs : List PV} : Ow B S p → H p = some (.lst vs) → Reps W K w S H vs xs → SlOk W K w B S H (some (.ref p)) (.lst xs)
  | dic {p : Addr} {kvs : List (Key × V)} {xs : List (Key × PV)} : Ow B S p → H p = some (.dK kvs) → kvs.map (·.1) = xs.map (·.1) → Reps W K w S H (kvs.map (·.2)) (xs.map (·.2)) → SlOk W K w B S H (some (.ref p)) (.dic xs)
  | own {p dx : Addr} {fs : List (Str × V)} {c : Nat} {fl : List (Nat × PV)} : p = B.me → Ow B S p → H p = some (.ins (ca W K c) dx fs) → fs.map (·.1) = fl.map (fun q => W.an q.1) → (∃ cl, W.G.cls c = some cl ∧ ∀ q ∈ fl, q.1 ∈ cl.flds) → Reps W K w S H (fs.map (·.2)) (fl.map (·.2)) → SlOk W K w B S H (some (.ref p)) (.own c fl)
structure Sim (W : Wd) (K : PySem.W.Frag) (w : World) (B : Base) (S : Syn) (fs : FS) (σ : L2.St) (H : Hp) : Prop where
  rel : Rel B.S B.H S H
  hi : HInv W K w S fs.hp H
  len : σ.length = fs.sl.length
  sl : ∀ (i : Nat) s v, fs.sl[i]? = some s → σ[i]? = some v → SlOk W K w B S H v s
  ap : ∀ (i j : Nat) s t p, i ≠ j → fs.sl[i]? = some s → fs.sl[j]? = some t → isOwn s = true → isOwn t = true → σ[i]? = some (some (.ref p)) → σ[j]? ≠ some (some (.ref p))
theorem SlOk.ow {B : Base} {v : Option V} {s : Sl} (h : SlOk W K w B S H v s) (o : isOwn s = true) : ∃ p u, v = some (.ref p) ∧ Ow B S p ∧ H p = some u := by
  cases h with
  | un => cases o
  | val _ => cases o
  | lst a b _ => exact ⟨_, _, rfl, a, b⟩
  | dic a b _ _ => exact ⟨_, _, rfl, a, b⟩
  | own _ a b _ _ _ => exact ⟨_, _, rfl, a, b⟩
end
end U
namespace U
open PySem PySem.Spec L2
section
variable {W : Wd} {K : PySem.W.Frag} {w : World} {B : Base} {S S' S2 : Syn} {H H' H2 : Hp} {v : V} {x : PV} {vs : List V} {xs : List PV} {fs fs' : FS} {σ : L2.St} {p : Addr} {o : HO}
theorem nd_ix {α : Type} : ∀ {l : List α}, l.Nodup → ∀ {i j : Nat} {x : α}, l[i]? = some x → l[j]? = some x → i = j
  | [], _, _, _, _, h, _ => by cases h
  | a :: r, h, 0, 0, _, _, _ => rfl
  | a :: r, h, 0, j + 1, x, h1, h2 => by
    cases h1
    exact absurd (List.mem_of_getElem? (show r[j]? = some a from h2)) (List.nodup_cons.mp h).1
  | a :: r, h, i + 1, 0, x, h1, h2 => by
    cases h2
    exact absurd (List.mem_of_getElem? (show r[i]? = some a from h1)) (List.nodup_cons.mp h).1
  | a :: r, h, i + 1, j + 1, x, h1, h2 => congrArg Nat.succ (nd_ix (List.nodup_cons.mp h).2 (show r[i]? = some x from h1) (show r[j]? = some x from h2))
def Syn.addF (S : Syn) (p : Addr) : Syn := ⟨fun b => S.F b ∨ b = p, S.rh⟩
def Syn.addR (S : Syn) (p : Addr) : Syn := ⟨S.F, S.rh ++ [p]⟩
/-- not yet of any use -/
def Loose (B : Base) (S : Syn) (fs : FS) (σ : L2.St) (p : Addr) : Prop := Ow B S p ∧ ∀ (i : Nat) s, fs.sl[i]? = some s → isOwn s = true → σ[i]? ≠ some (some (.ref p))
theorem HInv.rho (h : HInv W K w S fs.hp H) {b : Addr} (m : b ∈ S.rh) : H b ≠ none := by
  obtain ⟨i, hi, e⟩ := List.mem_iff_getElem.mp m
  have hl := h.len
  have h2 : i < fs.hp.length := by omega
  obtain ⟨u, q⟩ := (h.ob i _ b (List.getElem?_eq_getElem h2) (by rw [List.getElem?_eq_getElem hi, e])).some
  rw [q]
  intro z
  cases z
theorem HInv.rho' {h : Hb} (hh : HInv W K w S h H) {b : Addr} (m : b ∈ S.rh) : H b ≠ none := HInv.rho (fs := ⟨[], h⟩) hh m
theorem Sim.base (s : Sim W K w B S fs σ H) (h : H p = none) : B.H p = none := by
  cases q : B.H p with
  | none => rfl
  | some u => exact absurd h (s.rel.al p (by rw [q]; intro z; cases z))
theorem Sim.ow_new (s : Sim W K w B S fs σ H) (h : H p = none) : Ow B S p :=
  ⟨fun f => s.hi.al p f h, fun m => s.hi.rho m h, s.base h⟩
theorem Sim.own_at (s : Sim W K w B S fs σ H) {i : Nat} {q : Sl} (e : fs.sl[i]? = some q) (ow : isOwn q = true) : ∃ p u, σ[i]? = some (some (.ref p)) ∧ Ow B S p ∧ H p = some u := by
  have hi : i < σ.length := by
    rw [s.len]
    exact (List.getElem?_eq_some_iff.mp e).1
  obtain ⟨p, u, e2, o, h⟩ := (s.sl i q _ e (List.getElem?_eq_getElem hi)).ow ow
  exact ⟨p, u, by rw [List.getElem?_eq_getElem hi, e2], o, h⟩
theorem Sim.loose_new (s : Sim W K w B S fs σ H) (h : H p = none) : Loose B S fs σ p := by
  refine ⟨s.ow_new h, fun i q e ow z => ?_⟩
  obtain ⟨p', u, e2, o, h2⟩ := s.own_at e ow
  rw [e2] at z
  cases z
  rw [h] at h2
  cases h2
/-- slots at a later state -/
theorem SlOk.later {v : Option V} {s : Sl} (h : SlOk W K w B S H v s) (e : Ext S H S' H') (k : isOwn s = true → ∀ p, v = some (.ref p) → Ow B S p → H p ≠ none → H' p = H p ∧ Ow B S' p) : SlOk W K w B S' H' v s := by
  cases h with
  | un => exact .un
  | val r => exact .val (r.ext e)
  | lst a b r =>
    obtain ⟨k1, k2⟩ := k rfl _ rfl a (by rw [b]; intro z; cases z)
    exact .lst k2 (k1.trans b) (r.ext e)
  | dic a b n r =>
    obtain ⟨k1, k2⟩ := k rfl _ rfl a (by rw [b]; intro z; cases z)
    exact .dic k2 (k1.trans b) n (r.ext e)
  | own me a b n l r =>
    obtain ⟨k1, k2⟩ := k rfl _ rfl a (by rw [b]; intro z; cases z)
    exact .own me k2 (k1.trans b) n l (r.ext e)
theorem Ext.addF (h : H p = none ∨ H' p = H p) (k : ∀ b, b ≠ p → H' b = H b) (al : ∀ b, S.F b → H b ≠ none) : Ext S H (S.addF p) H' where
  F := fun b f => .inl f
  h := fun b f => by
    by_cases e : b = p
    · rcases h with h | h
      · rw [e] at f
        exact absurd h (al p f)
      · rw [e]; exact h
    · exact k b e
  rh := fun _ _ h => h
/-- something loose is frozen (it stands in H already) -/
theorem Sim.frz (s : Sim W K w B S fs σ H) (l : Loose B S fs σ p) (h : H p ≠ none) : Sim W K w B (S.addF p) fs σ H ∧ Ext S H (S.addF p) H := by
  obtain ⟨⟨l1, l2, l3⟩, l4⟩ := l
  have e : Ext S H (S.addF p) H := Ext.addF (.inr rfl) (fun _ _ => rfl) s.hi.al
  refine ⟨⟨⟨s.rel.pre, s.rel.keep, fun b hb => ?_, s.rel.new, s.rel.al⟩, ⟨s.hi.len, s.hi.nd, fun b m f => ?_, fun b f => ?_, fun a o q h1 h2 => (s.hi.ob a o q h1 h2).ext e rfl⟩, s.len, fun i q v h1 h2 => ?_, s.ap⟩, e⟩
  · constructor
    · intro f
      rcases f with f | f
      · exact (s.rel.frz b hb).mp f
      · rw [f, l3] at hb
        exact absurd rfl hb
    · exact fun f => .inl ((s.rel.frz b hb).mpr f)
  · rcases f with f | f
    · exact s.hi.dis b m f
    · rw [f] at m
      exact l2 m
  · rcases f with f | f
    · exact s.hi.al b f
    · rw [f]; exact h
  · refine (s.sl i q v h1 h2).later e fun ow p' e' o' n' => ⟨rfl, fun f => ?_, o'.2.1, o'.2.2⟩
    rcases f with f | f
    · exact o'.1 f
    · rw [e', f] at h2
      exact l4 i q h1 ow h2
/-- a new object -/
theorem Sim.lay (s : Sim W K w B S fs σ H) (h : H p = none) : Sim W K w B S fs σ (upd H p o) ∧ Ext S H S (upd H p o) ∧ Loose B S fs σ p := by
  have l := s.loose_new h
  have ne : ∀ b, H b ≠ none → b ≠ p := fun b hb e => by rw [e] at hb; exact hb h
  have e : Ext S H S (upd H p o) := ⟨fun _ f => f, fun b f => upd_ne (ne b (s.hi.al b f)), fun _ _ h => h⟩
  refine ⟨⟨⟨s.rel.pre, fun b u hb m => ?_, s.rel.frz, s.rel.new, fun b hb => ?_⟩, ⟨s.hi.len, s.hi.nd, s.hi.dis, fun b f => ?_, fun a u q h1 h2 => (s.hi.ob a u q h1 h2).ext e ?_⟩, s.len, fun i q v h1 h2 => ?_, s.ap⟩, e, l⟩
  · rw [upd_ne (ne b (s.rel.al b (by rw [hb]; intro z; cases z)))]
    exact s.rel.keep b u hb m
  · have := s.rel.al b hb
    rw [upd_ne (ne b this)]
    exact this
  · rw [upd_ne (ne b (s.hi.al b f))]
    exact s.hi.al b f
  · obtain ⟨z, y⟩ := (s.hi.ob a u q h1 h2).some
    exact upd_ne (ne q (by rw [y]; intro z; cases z))
  · exact (s.sl i q v h1 h2).later e fun ow p' e' o' n' => ⟨upd_ne (ne p' n'), o'⟩
theorem Sim.layF (s : Sim W K w B S fs σ H) (h : H p = none) : Sim W K w B (S.addF p) fs σ (upd H p o) ∧ Ext S H (S.addF p) (upd H p o) := by
  obtain ⟨s1, e1, l1⟩ := s.lay (o := o) h
  obtain ⟨s2, e2⟩ := s1.frz l1 (by rw [upd_same]; intro z; cases z)
  exact ⟨s2, e1.trans e2⟩
/-- something loose becomes an object of the own heap -/
theorem Sim.heap {u : HB} (s : Sim W K w B S fs σ H) (l : Loose B S fs σ p) (h : ObA W K w S H p u) : Sim W K w B (S.addR p) { fs with hp := fs.hp ++ [u] } σ H ∧ Ext S H (S.addR p) H ∧ (S.addR p).rh[fs.hp.length]? = some p := by
  obtain ⟨⟨l1, l2, l3⟩, l4⟩ := l
  have pre : ∀ (a : Nat) q, S.rh[a]? = some q → (S.addR p).rh[a]? = some q := fun a q e => by
    show (S.rh ++ [p])[a]? = some q
    rw [List.getElem?_append_left (List.getElem?_eq_some_iff.mp e).1]
    exact e
  have e : Ext S H (S.addR p) H := ⟨fun _ f => f, fun _ _ => rfl, pre⟩
  have at_ : (S.addR p).rh[fs.hp.length]? = some p := by
    show (S.rh ++ [p])[fs.hp.length]? = some p
    rw [← s.hi.len, List.getElem?_append_right (Nat.le_refl _), Nat.sub_self]
    rfl
  have mem : ∀ b, b ∈ (S.addR p).rh → b ∈ S.rh ∨ b = p := fun b m => by
    rcases List.mem_append.mp (show b ∈ S.rh ++ [p] from m) with m | m
    · exact .inl m
    · exact .inr (List.mem_singleton.mp m)
  refine ⟨⟨⟨fun a q h => pre a q (s.rel.pre a q h), s.rel.keep, s.rel.frz, fun b m n => ?_, s.rel.al⟩, ⟨?_, ?_, fun b m f => ?_, s.hi.al, fun a o q h1 h2 => ?_⟩, s.len, fun i q v h1 h2 => ?_, s.ap⟩, e, at_⟩
  · rcases mem b m with m | m
    · exact s.rel.new b m n
    · rw [m]; exact l3
  · show (S.rh ++ [p]).length = (fs.hp ++ [u]).length
    rw [List.length_append, List.length_append, s.hi.len]
    rfl
  · show (S.rh ++ [p]).Nodup
    refine List.nodup_append.mpr ⟨s.hi.nd, by simp, fun a m b m' e => ?_⟩
    rw [List.mem_singleton.mp m'] at e
    rw [e] at m
    exact l2 m
  · rcases mem b m with m | m
    · exact s.hi.dis b m f
    · rw [m] at f; exact l1 f
  · by_cases hl : a < fs.hp.length
    · have h1' : fs.hp[a]? = some o := by
        rw [← h1]
        exact (List.getElem?_append_left hl).symm
      have h2' : S.rh[a]? = some q := by
        rw [← h2]
        exact (List.getElem?_append_left (show a < S.rh.length by rw [s.hi.len]; exact hl)).symm
      exact (s.hi.ob a o q h1' h2').ext e rfl
    · have ha : a = fs.hp.length := by
        have := (List.getElem?_eq_some_iff.mp h1).1
        rw [List.length_append] at this
        simp only [List.length_cons, List.length_nil] at this
        omega
      rw [ha, at_] at h2
      cases h2
      rw [ha, List.getElem?_append_right (Nat.le_refl _), Nat.sub_self] at h1
      cases h1
      exact h.ext e rfl
  · refine (s.sl i q v h1 h2).later e fun ow p' e' o' n' => ⟨rfl, o'.1, fun m => ?_, o'.2.2⟩
    rcases mem p' m with m | m
    · exact o'.2.1 m
    · rw [e', m] at h2
      exact l4 i q h1 ow h2
/-- a slot is set -/
theorem Sim.set (s : Sim W K w B S fs σ H) (r : Rep W K w S H v x) (i : Nat) : Sim W K w B S (fs.set i x) (σ.set i (some v)) H := by
  refine ⟨s.rel, s.hi, by show (σ.set i (some v)).length = (fs.sl.set i (.val x)).length; rw [List.length_set, List.length_set]; exact s.len, fun j q u h1 h2 => ?_, fun j k q t p' ne h1 h2 o1 o2 h3 h4 => ?_⟩
  · have h1' : (fs.sl.set i (.val x))[j]? = some q := h1
    by_cases e : j = i
    · subst e
      have hj : j < fs.sl.length := by
        have := (List.getElem?_eq_some_iff.mp h1').1
        rwa [List.length_set] at this
      rw [List.getElem?_set_self hj] at h1'
      rw [List.getElem?_set_self (by rw [s.len]; exact hj)] at h2
      cases h1'; cases h2
      exact .val r
    · rw [List.getElem?_set_ne (Ne.symm e)] at h1' h2
      exact s.sl j q u h1' h2
  · have ne1 : ∀ {j : Nat} {q : Sl}, (fs.set i x).sl[j]? = some q → isOwn q = true → j ≠ i := fun {j q} h o e => by
      have h' : (fs.sl.set i (.val x))[j]? = some q := h
      subst e
      have hj : j < fs.sl.length := by
        have := (List.getElem?_eq_some_iff.mp h').1
        rwa [List.length_set] at this
      rw [List.getElem?_set_self hj] at h'
      cases h'
      cases o
    have n1 := ne1 h1 o1
    have n2 := ne1 h2 o2
    have h1' : (fs.sl.set i (.val x))[j]? = some q := h1
    have h2' : (fs.sl.set i (.val x))[k]? = some t := h2
    rw [List.getElem?_set_ne (Ne.symm n1)] at h1' h3
    rw [List.getElem?_set_ne (Ne.symm n2)] at h2' h4
    exact s.ap j k q t p' ne h1' h2' o1 o2 h3 h4
/-- a slot gets what is loose -/
theorem Sim.own {q0 : Sl} (s : Sim W K w B S fs σ H) (l : Loose B S fs σ p) (i : Nat) (r : SlOk W K w B S H (some (.ref p)) q0) : Sim W K w B S (putS fs i q0) (σ.set i (some (.ref p))) H := by
  refine ⟨s.rel, s.hi, by show (σ.set i (some (.ref p))).length = (fs.sl.set i q0).length; rw [List.length_set, List.length_set]; exact s.len, fun j q u h1 h2 => ?_, fun j k q t p' ne h1 h2 o1 o2 h3 h4 => ?_⟩
  · have h1' : (fs.sl.set i q0)[j]? = some q := h1
    by_cases e : j = i
    · subst e
      have hj : j < fs.sl.length := by
        have := (List.getElem?_eq_some_iff.mp h1').1
        rwa [List.length_set] at this
      rw [List.getElem?_set_self hj] at h1'
      rw [List.getElem?_set_self (by rw [s.len]; exact hj)] at h2
      cases h1'; cases h2
      exact r
    · rw [List.getElem?_set_ne (Ne.symm e)] at h1' h2
      exact s.sl j q u h1' h2
  · have h1' : (fs.sl.set i q0)[j]? = some q := h1
    have h2' : (fs.sl.set i q0)[k]? = some t := h2
    have inr : ∀ {j : Nat} {q : Sl}, (fs.sl.set i q0)[j]? = some q → j < fs.sl.length := fun {j q} h => by
      have := (List.getElem?_eq_some_iff.mp h).1
      rwa [List.length_set] at this
    by_cases ej : j = i
    · have ek : k ≠ i := fun z => ne (ej.trans z.symm)
      subst ej
      rw [List.getElem?_set_self (by rw [s.len]; exact inr h1')] at h3
      cases h3
      rw [List.getElem?_set_ne (Ne.symm ek)] at h2' h4
      exact l.2 k t h2' o2 h4
    · rw [List.getElem?_set_ne (Ne.symm ej)] at h1' h3
      by_cases ek : k = i
      · subst ek
        rw [List.getElem?_set_self (by rw [s.len]; exact inr h2')] at h4
        cases h4
        exact l.2 j q h1' o1 h3
      · rw [List.getElem?_set_ne (Ne.symm ek)] at h2' h4
        exact s.ap j k q t p' ne h1' h2' o1 o2 h3 h4
/-- an object of the own heap is written -/
theorem Sim.put {a : Nat} {u : HB} (s : Sim W K w B S fs σ H) (hp : S.rh[a]? = some p) (h : ObA W K w S (upd H p o) p u) : Sim W K w B S (putO fs a u) σ (upd H p o) ∧ Ext S H S (upd H p o) := by
  have m : p ∈ S.rh := List.mem_of_getElem? hp
  have e : Ext S H S (upd H p o) := ⟨fun _ f => f, fun b f => upd_ne fun z => s.hi.dis p m (z ▸ f), fun _ _ h => h⟩
  have al : ∀ b, H b ≠ none → upd H p o b ≠ none := fun b hb => by
    by_cases z : b = p
    · rw [z, upd_same]; intro y; cases y
    · rw [upd_ne z]; exact hb
  refine ⟨⟨⟨s.rel.pre, fun b q hb n => ?_, s.rel.frz, s.rel.new, fun b hb => al b (s.rel.al b hb)⟩, ⟨?_, s.hi.nd, s.hi.dis, fun b f => al b (s.hi.al b f), fun c q r h1 h2 => ?_⟩, s.len, fun i q v h1 h2 => ?_, s.ap⟩, e⟩
  · have ne : b ≠ p := fun z => by
      have q1 := s.rel.new p m (z ▸ n)
      rw [z, q1] at hb
      cases hb
    rw [upd_ne ne]
    exact s.rel.keep b q hb n
  · show S.rh.length = (fs.hp.set a u).length
    rw [List.length_set]
    exact s.hi.len
  · have h1' : (fs.hp.set a u)[c]? = some q := h1
    by_cases z : c = a
    · subst z
      rw [hp] at h2
      cases h2
      have hc : c < fs.hp.length := by
        have := (List.getElem?_eq_some_iff.mp h1').1
        rwa [List.length_set] at this
      rw [List.getElem?_set_self hc] at h1'
      cases h1'
      exact h
    · rw [List.getElem?_set_ne (Ne.symm z)] at h1'
      have ne : r ≠ p := fun y => by
        rw [y] at h2
        exact z (nd_ix s.hi.nd h2 hp)
      exact (s.hi.ob c q r h1' h2).ext e (upd_ne ne)
  · exact (s.sl i q v h1 h2).later e fun ow p' e' o' n' => ⟨upd_ne fun z => o'.2.1 (z ▸ m), o'⟩
/-- what a slot owns is written -/
theorem Sim.putOwn {i : Nat} {q0 q1 : Sl} (s : Sim W K w B S fs σ H) (h0 : fs.sl[i]? = some q0) (ow : isOwn q0 = true) (hσ : σ[i]? = some (some (.ref p))) (h : SlOk W K w B S (upd H p o) (some (.ref p)) q1) : Sim W K w B S (putS fs i q1) σ (upd H p o) ∧ Ext S H S (upd H p o) := by
  obtain ⟨p', u, e', o', hu⟩ := s.own_at h0 ow
  rw [hσ] at e'
  cases e'
  have e : Ext S H S (upd H p o) := ⟨fun _ f => f, fun b f => upd_ne fun z => o'.1 (z ▸ f), fun _ _ h => h⟩
  have al : ∀ b, H b ≠ none → upd H p o b ≠ none := fun b hb => by
    by_cases z : b = p
    · rw [z, upd_same]; intro y; cases y
    · rw [upd_ne z]; exact hb
  refine ⟨⟨⟨s.rel.pre, fun b q hb n => ?_, s.rel.frz, s.rel.new, fun b hb => al b (s.rel.al b hb)⟩, ⟨s.hi.len, s.hi.nd, s.hi.dis, fun b f => al b (s.hi.al b f), fun c q r h1 h2 => ?_⟩, ?_, fun j q v h1 h2 => ?_, fun j k q t p'' ne h1 h2 o1 o2 h3 h4 => ?_⟩, e⟩
  · have ne : b ≠ p := fun z => by
      rw [z, o'.2.2] at hb
      cases hb
    rw [upd_ne ne]
    exact s.rel.keep b q hb n
  · refine (s.hi.ob c q r h1 h2).ext e (upd_ne fun z => ?_)
    rw [z] at h2
    exact o'.2.1 (List.mem_of_getElem? h2)
  · show σ.length = (fs.sl.set i q1).length
    rw [List.length_set]
    exact s.len
  · have h1' : (fs.sl.set i q1)[j]? = some q := h1
    by_cases z : j = i
    · subst z
      rw [hσ] at h2
      cases h2
      rw [List.getElem?_set_self (List.getElem?_eq_some_iff.mp h0).1] at h1'
      cases h1'
      exact h
    · rw [List.getElem?_set_ne (Ne.symm z)] at h1'
      refine (s.sl j q v h1' h2).later e fun ow' p1 e1 o1 n1 => ⟨upd_ne fun y => ?_, o1⟩
      rw [e1, y] at h2
      exact s.ap i j q0 q p (Ne.symm z) h0 h1' ow ow' hσ h2
  · have old : ∀ {j : Nat} {q : Sl}, (putS fs i q1).sl[j]? = some q → isOwn q = true → ∃ q', fs.sl[j]? = some q' ∧ isOwn q' = true := fun {j q} h o => by
      have h' : (fs.sl.set i q1)[j]? = some q := h
      by_cases z : j = i
      · exact ⟨q0, by rw [z]; exact h0, ow⟩
      · rw [List.getElem?_set_ne (Ne.symm z)] at h'
        exact ⟨q, h', o⟩
    obtain ⟨q', a1, b1⟩ := old h1 o1
    obtain ⟨t', a2, b2⟩ := old h2 o2
    exact s.ap j k q' t' p'' ne a1 a2 b1 b2 h3 h4
/-- behind a call -/
theorem Sim.call {h' : Hb} (s : Sim W K w B S fs σ H) (r : Rel S H S' H') (hi : HInv W K w S' h' H') : Sim W K w B S' { fs with hp := h' } σ H' ∧ Ext S H S' H' := by
  have e := r.ext s.hi
  refine ⟨⟨s.rel.trans r, hi, s.len, fun i q v h1 h2 => ?_, s.ap⟩, e⟩
  refine (s.sl i q v h1 h2).later e fun ow p' e' o' n' => ?_
  refine ⟨?_, fun f => o'.1 ((r.frz p' n').mp f), fun m => n' (r.new p' m o'.2.1), o'.2.2⟩
  cases z : H p' with
  | none => exact absurd z n'
  | some u => exact r.keep p' u z o'.2.1
/-- an own list or dict is frozen -/
theorem Sim.frzOwn {i : Nat} {q0 : Sl} (s : Sim W K w B S fs σ H) (h0 : fs.sl[i]? = some q0) (ow : isOwn q0 = true) (hσ : σ[i]? = some (some (.ref p))) (r : Rep W K w (S.addF p) H (.ref p) x) : Sim W K w B (S.addF p) (fs.set i x) σ H ∧ Ext S H (S.addF p) H := by
  obtain ⟨p', u, e', o', hu⟩ := s.own_at h0 ow
  rw [hσ] at e'
  cases e'
  have hi0 := (List.getElem?_eq_some_iff.mp h0).1
  -- the slot is emptied, then what was owned is loose
  have s1 : Sim W K w B S (putS fs i .un) σ H := by
    refine ⟨s.rel, s.hi, ?_, fun j q v h1 h2 => ?_, fun j k q t p'' ne h1 h2 o1 o2 h3 h4 => ?_⟩
    · show σ.length = (fs.sl.set i .un).length
      rw [List.length_set]; exact s.len
    · have h1' : (fs.sl.set i .un)[j]? = some q := h1
      by_cases z : j = i
      · subst z
        rw [List.getElem?_set_self hi0] at h1'
        cases h1'
        exact .un
      · rw [List.getElem?_set_ne (Ne.symm z)] at h1'
        exact s.sl j q v h1' h2
    · have old : ∀ {j : Nat} {q : Sl}, (putS fs i .un).sl[j]? = some q → isOwn q = true → fs.sl[j]? = some q := fun {j q} h o => by
        have h' : (fs.sl.set i .un)[j]? = some q := h
        by_cases z : j = i
        · subst z
          rw [List.getElem?_set_self hi0] at h'
          cases h'
          cases o
        · rwa [List.getElem?_set_ne (Ne.symm z)] at h'
      exact s.ap j k q t p'' ne (old h1 o1) (old h2 o2) o1 o2 h3 h4
  have l1 : Loose B S (putS fs i .un) σ p := by
    refine ⟨o', fun j q h1 o1 h2 => ?_⟩
    have h1' : (fs.sl.set i .un)[j]? = some q := h1
    by_cases z : j = i
    · subst z
      rw [List.getElem?_set_self hi0] at h1'
      cases h1'
      cases o1
    · rw [List.getElem?_set_ne (Ne.symm z)] at h1'
      exact s.ap i j q0 q p (Ne.symm z) h0 h1' ow o1 hσ h2
  obtain ⟨s2, e2⟩ := s1.frz l1 (by rw [hu]; intro z; cases z)
  have s3 := s2.set r i
  have e3 : (putS fs i .un).set i x = fs.set i x := by
    show ({ sl := (fs.sl.set i .un).set i (.val x), hp := fs.hp } : FS) = { sl := fs.sl.set i (.val x), hp := fs.hp }
    rw [List.set_set]
  have e4 : σ.set i (some (.ref p)) = σ := by
    have hj : i < σ.length := by rw [s.len]; exact hi0
    have : σ[i] = some (.ref p) := by
      rw [List.getElem?_eq_getElem hj] at hσ
      exact Option.some.inj hσ
    rw [← this]
    exact List.set_getElem_self hj
  rw [e3, e4] at s3
  exact ⟨s3, e2⟩
end
end U
namespace U
open PySem PySem.Spec L2
section
variable {W : Wd} {K : PySem.W.Frag} {w : World} {B : Base} {S S' S2 : Syn} {H H' H2 : Hp} {v : V} {x : PV} {vs : List V} {xs : List PV} {fs fs' : FS} {σ : L2.St} {p : Addr} {o : HO} {h : Hb}
theorem Rep.non_inv (r : Rep W K w S H v .non) : v = .non := by
  cases r with
  | sc r => cases r; rfl
theorem Rep.bl_inv {b : Bool} (r : Rep W K w S H v (.bl b)) : v = .bl b := by
  cases r with
  | sc r => cases r; rfl
theorem Rep.int_inv {i : Int} (r : Rep W K w S H v (.int i)) : v = .int i := by
  cases r with
  | sc r => cases r; rfl
theorem Rep.str_inv {z : Str} (r : Rep W K w S H v (.str z)) : v = .str z := by
  cases r with
  | sc r => cases r; rfl
theorem Rep.tup_inv (r : Rep W K w S H v (.tup xs)) : ∃ p vs, v = .ref p ∧ SqT K H p vs ∧ Reps W K w S H vs xs := by
  cases r with
  | sc r => cases r
  | tup f h r => exact ⟨_, _, rfl, SqT.of h, r⟩
  | ktup h r => exact ⟨_, _, rfl, h _, r⟩
theorem Rep.lst_inv (r : Rep W K w S H v (.lst xs)) : ∃ p vs, v = .ref p ∧ S.F p ∧ Rd H p (.lst vs) ∧ Reps W K w S H vs xs := by
  cases r with
  | sc r => cases r
  | lst f h r => exact ⟨_, _, rfl, f, h, r⟩
theorem Rep.obj_inv {a : Nat} (r : Rep W K w S H v (.obj a)) : ∃ p, v = .ref p ∧ S.rh[a]? = some p := by
  cases r with
  | sc r => cases r
  | obj h => exact ⟨_, rfl, h⟩
theorem Rep.fn_inv {f : Nat} (r : Rep W K w S H v (.fn f)) : v = .ref (fa W K f) := by
  cases r with
  | sc r => cases r; rfl
theorem Rep.i (i : Int) : Rep W K w S H (.int i) (.int i) := .sc (.int i)
theorem Rep.b (b : Bool) : Rep W K w S H (.bl b) (.bl b) := .sc (.bl b)
theorem Rep.s (z : Str) : Rep W K w S H (.str z) (.str z) := .sc (.str z)
theorem Rep.n : Rep W K w S H .non .non := .sc .non
/-- flat values are what they are -/
def flatOf : PV → Option V
  | .non => some .non
  | .bl b => some (.bl b)
  | .int i => some (.int i)
  | .str z => some (.str z)
  | _ => none
theorem Rep.flat (r : Rep W K w S H v x) (h : flat x = true) : flatOf x = some v ∧ flatV v = true := by
  cases x with
  | non => rw [r.non_inv]; exact ⟨rfl, rfl⟩
  | bl b => rw [r.bl_inv]; exact ⟨rfl, rfl⟩
  | int i => rw [r.int_inv]; exact ⟨rfl, rfl⟩
  | str z => rw [r.str_inv]; exact ⟨rfl, rfl⟩
  | _ => cases h
theorem HInv.at (i : HInv W K w S h H) {a : Nat} (hp : S.rh[a]? = some p) : ∃ u, h[a]? = some u ∧ ObA W K w S H p u := by
  have h1 := (List.getElem?_eq_some_iff.mp hp).1
  rw [i.len] at h1
  exact ⟨h[a], List.getElem?_eq_getElem h1, i.ob a _ p (List.getElem?_eq_getElem h1) hp⟩
/-- a list: frozen, or of the own heap -/
theorem asL_rep (i : HInv W K w S h H) (r : Rep W K w S H v x) (e : asL h x = some xs) : ∃ p vs, v = .ref p ∧ SqL K H p vs ∧ Reps W K w S H vs xs := by
  cases x with
  | lst ys =>
    cases e
    obtain ⟨p, vs, rfl, f, h, r⟩ := r.lst_inv
    exact ⟨p, vs, rfl, .inl h, r⟩
  | obj a =>
    obtain ⟨p, rfl, hp⟩ := r.obj_inv
    obtain ⟨u, hu, ob⟩ := i.at hp
    unfold asL at e
    simp only [hu] at e
    cases ob with
    | lst h r => cases e; exact ⟨p, _, rfl, SqL.of h, r⟩
    | dic h k r => cases e
    | ins h n l r => cases e
  | _ => cases e
theorem asL_heap (i : HInv W K w S h H) {a : Nat} (hp : S.rh[a]? = some p) (e : h[a]? = some (.lst xs)) : ∃ vs, H p = some (.lst vs) ∧ Reps W K w S H vs xs := by
  obtain ⟨u, hu, ob⟩ := i.at hp
  rw [hu] at e
  cases e
  cases ob with
  | lst h r => exact ⟨_, h, r⟩
theorem asS_rep (i : HInv W K w S h H) (r : Rep W K w S H v x) (e : asS h x = some xs) : ∃ p vs, v = .ref p ∧ (SqL K H p vs ∨ SqT K H p vs) ∧ Reps W K w S H vs xs := by
  cases x with
  | tup ys =>
    cases e
    obtain ⟨p, vs, rfl, h, r⟩ := r.tup_inv
    exact ⟨p, vs, rfl, .inr h, r⟩
  | lst ys =>
    obtain ⟨p, vs, e1, h, r⟩ := asL_rep (xs := xs) i r e
    exact ⟨p, vs, e1, .inl h, r⟩
  | obj a =>
    obtain ⟨p, vs, e1, h, r⟩ := asL_rep (xs := xs) i r e
    exact ⟨p, vs, e1, .inl h, r⟩
  | _ => cases e
theorem zipD_map : ∀ {kvs : List (Key × V)} {xs : List PV}, Reps W K w S H (kvs.map (·.2)) xs → (zipD (kvs.map (·.1)) xs).map (·.1) = kvs.map (·.1) ∧ (zipD (kvs.map (·.1)) xs).map (·.2) = xs
  | [], xs, r => by cases r; exact ⟨rfl, rfl⟩
  | q :: kvs, xs, r => by
    cases r with
    | cons h r =>
      obtain ⟨e1, e2⟩ := zipD_map r
      exact ⟨congrArg (q.1 :: ·) e1, congrArg (_ :: ·) e2⟩
/-- a dict: frozen, or of the own heap -/
theorem asD_rep (i : HInv W K w S h H) {kvs : List (Key × PV)} (r : Rep W K w S H v x) (e : asD h x = some kvs) :
    ∃ (p : Addr) (us : List (Key × V)), v = .ref p ∧ H p = some (.dK us) ∧ us.map (·.1) = kvs.map (·.1) ∧ Reps W K w S H (us.map (·.2)) (kvs.map (·.2)) := by
  cases x with
  | dic ks ys =>
    cases e
    cases r with
    | sc r => cases r
    | dic f h k r =>
      subst k
      obtain ⟨e1, e2⟩ := zipD_map r
      exact ⟨_, _, rfl, h, e1.symm, by rw [e2]; exact r⟩
  | obj a =>
    obtain ⟨p, rfl, hp⟩ := r.obj_inv
    obtain ⟨u, hu, ob⟩ := i.at hp
    unfold asD at e
    simp only [hu] at e
    cases ob with
    | lst h r => cases e
    | dic h k r => cases e; exact ⟨p, _, rfl, h, k, r⟩
    | ins h n l r => cases e
  | _ => cases e
theorem Rep.kdc_inv {ks : List Key} {ys : List PV} (r : Rep W K w S H v (.kdc ks ys)) : ∃ p, v = .ref p ∧ KDic W K w p (zipD ks ys) := by
  cases r with
  | sc r => cases r
  | kdic d l => exact ⟨_, rfl, d⟩
theorem dGet_val : ∀ {us : List (Key × V)} {kvs : List (Key × PV)} (k : Key), us.map (·.1) = kvs.map (·.1) → Reps W K w S H (us.map (·.2)) (kvs.map (·.2)) →
    match dGet kvs k with
    | some x => ∃ v, valV us k = some v ∧ Rep W K w S H v x
    | none => valV us k = none
  | [], [], k, _, _ => rfl
  | [], _ :: _, k, e, _ => by cases e
  | _ :: _, [], k, e, _ => by cases e
  | u :: us, (j, y) :: kvs, k, e, r => by
    have e1 : u.1 = j := (List.cons.inj e).1
    have e2 := (List.cons.inj e).2
    cases r with
    | cons h r =>
      unfold dGet
      by_cases c : j = k
      · rw [if_pos c]
        exact ⟨u.2, valV_pos (e1.trans c), h⟩
      · rw [if_neg c, valV_neg (fun z => c (e1.symm.trans z))]
        exact dGet_val k e2 r
theorem keyOf_rep {k : Key} (r : Rep W K w S H v x) (e : keyOf x = some k) : v = kV k := by
  cases x with
  | int i => cases e; exact r.int_inv
  | str z => cases e; exact r.str_inv
  | _ => cases e
mutual
theorem Dp_of : ∀ (x : PV) (v : V), Rep W K w S H v x → PyData.canLay0 (toD x) = true → Dp K H v (toD x)
  | .non, v, r, _ => by rw [r.non_inv]; exact .non
  | .bl b, v, r, _ => by rw [r.bl_inv]; exact .bl b
  | .int i, v, r, _ => by rw [r.int_inv]; exact .int i
  | .str z, v, r, _ => by rw [r.str_inv]; exact .str z
  | .tup xs, v, r, c => by
    obtain ⟨p, vs, rfl, h, r⟩ := r.tup_inv
    exact .tup h (Dps_of xs vs r (by simpa [toD, PyData.canLay0] using c))
  | .lst xs, v, r, c => by
    obtain ⟨p, vs, rfl, f, h, r⟩ := r.lst_inv
    exact .lst (.inl h) (Dps_of xs vs r (by simpa [toD, PyData.canLay0] using c))
  | .dic _ _, _, _, c => by simp [toD, PyData.canLay0] at c
  | .kdc _ _, _, _, c => by simp [toD, PyData.canLay0] at c
  | .ins _ _, _, _, c => by simp [toD, PyData.canLay0] at c
  | .cls _, _, _, c => by simp [toD, PyData.canLay0] at c
  | .fn _, _, _, c => by simp [toD, PyData.canLay0] at c
  | .obj _, _, _, c => by simp [toD, PyData.canLay0] at c
  | .exc _ _, _, _, c => by simp [toD, PyData.canLay0] at c
theorem Dps_of : ∀ (xs : List PV) (vs : List V), Reps W K w S H vs xs → PyData.canLayAll0 (toDs xs) = true → DpAll K H vs (toDs xs)
  | [], _, r, _ => by cases r; exact .nil
  | x :: xs, _, r, c => by
    cases r with
    | cons h r =>
      simp only [toDs, PyData.canLayAll0, Bool.and_eq_true] at c
      exact .cons (Dp_of x _ h c.1) (Dps_of xs _ r c.2)
end
/-- .. of a list of the own heap too -/
theorem Dp_thaw (i : HInv W K w S h H) (r : Rep W K w S H v x) (c : plain (thaw h x) = true) : Dp K H v (toD (thaw h x)) := by
  have c' := (Bool.and_eq_true_iff.mp c).1
  unfold thaw at c' ⊢
  cases e : asL h x with
  | none =>
    rw [e] at c'
    exact Dp_of x v r c'
  | some xs =>
    rw [e] at c'
    obtain ⟨p, vs, rfl, q, r⟩ := asL_rep i r e
    exact .lst q (Dps_of xs vs r (by simpa [toD, PyData.canLay0] using c'))
theorem eqv_flat {y : PV} {a b : V} (h1 : flatOf y = some a) (h2 : flatOf x = some b) : eqV a b = eqv y x := by
  cases y <;> cases h1 <;> cases x <;> cases h2 <;> rfl
theorem inV_of : ∀ {vs : List V} {xs : List PV}, Reps W K w S H vs xs → xs.all flat = true → ∀ {x : PV} {v : V}, flatOf x = some v → inV v vs = inL x xs ∧ vs.all flatV = true
  | _, _, .nil, _, _, _, _ => ⟨rfl, rfl⟩
  | _, _, .cons h r, f, x, v, e => by
    rw [List.all_cons, Bool.and_eq_true] at f
    obtain ⟨a, b⟩ := h.flat f.1
    obtain ⟨c, d⟩ := inV_of r f.2 e
    refine ⟨?_, ?_⟩
    · unfold inV at c ⊢
      unfold inL
      rw [List.any_cons, eqv_flat a e, c]
    · rw [List.all_cons, b, d]; rfl
end
end U
namespace PySem.SeqAt
open AutoSeq1 (wpAny_loadPart')
open MeetsSeq MeetsSeq2 MeetsSeq3 SeqRoads2
section
variable {prog : Program} {w : World}
theorem uneq_loop (l b : Addr) (xs ys : Array Value) (n m : Nat) (d d' : Option Addr) (sl sl' : Array (Option Value)) (z : xs.size = ys.size) (k : Nat) :
    ∀ i : Nat, xs.size - i = k → MeetsIn prog w (Builtin.«list.__eq__.loop» ⟨[.ref l, .ref b, rawInt i, rawInt 3], []⟩)
      (fun A R s => s.heap.get? l = some { cls := .type "list", dict := d, data := .seq xs n, slots := sl } ∧ s.heap.get? b = some { cls := .type "list", dict := d', data := .seq ys m, slots := sl' } ∧
        (∀ j (h1 : j < xs.size) (h2 : j < ys.size), EqP prog w A.in1 s xs[j] ys[j] true) ∧ R (.ok (.ret (.bool false))) s) := by
  induction k with
  | zero =>
    intro i hk A R s h
    obtain ⟨hp, g, dd, tk, os⟩ := s; obtain ⟨hl, hb, he, h⟩ := h
    wp_walk using wpAny_loadPart' hl, wpAny_loadPart' hb
    rw [show xs[((i : Nat) : Int).toNat]? = none by simp; omega, show ys[((i : Nat) : Int).toNat]? = none by simp; omega]
    wp_walk using wpAny_loadPart' hl, wpAny_loadPart' hb
    show R (.ok (.ret (.bool (xs.size != ys.size)))) _
    rw [z]
    simpa using h
  | succ k ih =>
    intro i hk A R s h
    obtain ⟨hp, g, dd, tk, os⟩ := s; obtain ⟨hl, hb, he, h⟩ := h
    wp_walk using wpAny_loadPart' hl, wpAny_loadPart' hb
    have h1 : i < xs.size := by omega
    have h2 : i < ys.size := by omega
    rw [show xs[((i : Nat) : Int).toNat]? = some xs[i] by simp [h1], show ys[((i : Nat) : Int).toNat]? = some ys[i] by simp [h2]]
    refine wpAny_bind (he i h1 h2 _ _ ?_)
    wp_walk
    rw [show ((i : Int) + 1) = ((i + 1 : Nat) : Int) by push_cast; rfl]
    exact ⟨plainId_quiet plain_eq_loop _, codeAny_builtin entry_eq_loop (by
      rw [Around.under_plainId plain_eq_loop _]
      exact ih (i + 1) (by omega) A R _ ⟨hl, hb, he, h⟩)⟩
theorem uneq_list (l b : Addr) (xs ys : Array Value) (n m : Nat) (d d' : Option Addr) (sl sl' : Array (Option Value)) (z : xs.size = ys.size) :
    MeetsIn prog w (Builtin.«list.__ne__» ⟨[.ref l, .ref b], []⟩)
      (fun A R s => s.heap.get? l = some { cls := .type "list", dict := d, data := .seq xs n, slots := sl } ∧ s.heap.get? b = some { cls := .type "list", dict := d', data := .seq ys m, slots := sl' } ∧
        (∀ j (h1 : j < xs.size) (h2 : j < ys.size), EqP prog w A.in1 s xs[j] ys[j] true) ∧ R (.ok (.ret (.bool false))) s) := by
  intro A R s h
  obtain ⟨hp, g, dd, tk, os⟩ := s; obtain ⟨hl, hb, he, h⟩ := h
  have f3 := AutoSeq1.sub_list_list
  have hne : ¬ (xs.size != ys.size) = true := by simp [z]
  wp_walk using wpAny_loadPart' hl, wpAny_loadPart' hb
  exact ⟨plainId_quiet plain_eq_loop _, codeAny_builtin entry_eq_loop (by
    rw [Around.under_plainId plain_eq_loop _]
    exact uneq_loop l b xs ys n m d d' sl sl' z _ 0 rfl A R _ ⟨hl, hb, he, h⟩)⟩
theorem uneq_lists {A : Around} {s : Shared} {l b : Addr} {xs ys : Array Value} (hl : s.heap.IsList l xs) (hb : s.heap.IsList b ys) (z : xs.size = ys.size) (hu : A.units < cLine)
    (he : ∀ j (h1 : j < xs.size) (h2 : j < ys.size), EqP prog w A.in1 s xs[j] ys[j] true) (E Q : Value → Shared → Prop) (h : Q (.bool false) s) : wpAny (model prog w) A (richCompare .NotEq (.ref l) (.ref b)) Q E s := by
  obtain ⟨⟨cls, dd, data, sl⟩, ho, hc, n, hd⟩ := id hl
  obtain ⟨⟨cls2, dd2, data2, sl2⟩, ho2, hc2, n2, hd2⟩ := id hb
  simp only at hc hd hc2 hd2
  subst hc hd hc2 hd2
  have ta : s.TypeIs (.ref l) "list" := ⟨_, ho, rfl⟩
  have tb : s.TypeIs (.ref b) "list" := ⟨_, ho2, rfl⟩
  exact wpAny_richCompare_same_room (op := .NotEq) ta tb F.slot_list_ne (call_meetsIn F.slot_list_ne ta F.entry_list_ne (F.args_list_ne_2 _ _) (uneq_list l b xs ys n n2 dd dd2 sl sl2 z)
    ⟨ho, ho2, he, show Value.bool false ≠ Value.notImplemented ∧ Q (.bool false) s from ⟨(fun x => nomatch x), h⟩⟩) hu
end
end PySem.SeqAt
namespace U
open PySem PySem.Spec L2
section
variable {W : Wd} {X : Cx} {S : Syn} {H : Hp} {v u : V} {x y : PV} {h : Hb}
/-- two lists, their items equal pair by pair -/
def rLsE (K : PySem.W.Frag) (b : Bool) : R2 := fun x y H Q => ∃ p q xs ys, x = .ref p ∧ y = .ref q ∧ SqL K H p xs ∧ SqL K H q ys ∧ Paired (EqV K H 8) xs ys ∧ Q (.bl b) H
theorem lsE_ok (hu : X.A.units + 64 < cLine) : OpR X (compareOp .Eq) (rLsE X.K true) := by
  intro pins s σ H x y v u Q I rx ry h
  obtain ⟨p, q, xs, ys, e1, e2, h1, h2, hp, z⟩ := h
  exact op_eqV hu pins s σ H x y v u Q I rx ry ⟨8, by decide, .inl ⟨p, q, xs, ys, e1, e2, h1, h2, hp⟩, z⟩
theorem lsN_ok (hu : X.A.units + 64 < cLine) : OpR X (compareOp .NotEq) (rLsE X.K false) := by
  intro pins s σ H x y v u Q I rx ry h
  obtain ⟨a, b, xs, ys, rfl, rfl, ha, hb, hp, z⟩ := h
  cases (show v = Value.ref a from rx)
  cases (show u = Value.ref b from ry)
  obtain ⟨us, r1, p1, _⟩ := I.list ha
  obtain ⟨ws, r2, p2, _⟩ := I.list hb
  have hsz : us.toArray.size = ws.toArray.size := by
    rw [List.size_toArray, List.size_toArray, ← r1.length, ← r2.length]
    exact Paired.length hp
  refine SeqAt.uneq_lists p1.isList p2.isList hsz (by omega) (fun j h1 h2 => ?_) _ _ ⟨.bl false, H, I, rfl, z⟩
  have k := items_run (eqV_run I 8 X.A.in1 (by show X.A.units + 1 + 8 < cLine; omega)) hp r1 r2 j (by simpa using h1) (by simpa using h2)
  simpa using k
end
end U
namespace U
open PySem PySem.Spec L2
section
variable {W : Wd} {X : Cx} {B : Base} {S S' S2 : Syn} {H H' H2 : Hp} {v u : V} {x y z : PV} {vs : List V} {xs : List PV} {fs fs' : FS} {σ : L2.St} {p : Addr} {o : HO} {h : Hb} {Q : VK}
/-- what is wanted of an answer, the slots as they are -/
def Out (W : Wd) (X : Cx) (B : Base) (S : Syn) (fs : FS) (σ : L2.St) (H : Hp) (z : PV) (Q : VK) : Prop :=
  ∀ v H' S', Sim W X.K X.w B S' fs σ H' → Ext S H S' H' → Rep W X.K X.w S' H' v z → Q v H'
theorem Out.here (k : Out W X B S fs σ H z Q) (s : Sim W X.K X.w B S fs σ H) (r : Rep W X.K X.w S H v z) : Q v H := k v H S s .refl r
/-- a new tuple -/
theorem Out.tup (k : Out W X B S fs σ H (.tup xs) Q) (s : Sim W X.K X.w B S fs σ H) (hp : H p = none) (r : Reps W X.K X.w S H vs xs) : Q (.ref p) (upd H p (.tup vs)) := by
  obtain ⟨s1, e1⟩ := s.layF (o := .tup vs) hp
  exact k _ _ _ s1 e1 (.tup (.inr rfl) upd_same (r.ext e1))
def opB : BO → Operator
  | .add => .Add
  | .sub => .Sub
  | .mul => .Mult
  | .fdiv => .FloorDiv
  | .mod => .Mod
  | .pow => .Pow
def rB (X : Cx) : BO → R2
  | .add => fun x y H Q => (∃ i j, x = .int i ∧ y = .int j ∧ Q (.int (i + j)) H) ∨ (∃ i j, x = .str i ∧ y = .str j ∧ i.length + j.length ≤ sizeLine ∧ Q (.str (i ++ j)) H) ∨ rCatA X.K x y H Q
  | .sub => rI0 fun i j => .int (i - j)
  | .mul => rI CMul fun i j => .int (i * j)
  | .fdiv => rI CDiv fun i j => .int (i / j)
  | .mod => rI (fun _ j => 0 < j) fun i j => .int (i % j)
  | .pow => fun _ _ _ _ => False
theorem rB_ok : ∀ b : BO, OpR X (binaryOp (opB b)) (rB X b)
  | .add => OpR.or op_add (OpR.or op_add_str op_catA)
  | .sub => op_sub
  | .mul => op_mul
  | .fdiv => op_fdiv
  | .mod => op_mod
  | .pow => fun _ _ _ _ _ _ _ _ _ _ _ _ h => h.elim
theorem bin_rd (b : BO) (s : Sim W X.K X.w B S fs σ H) (rx : Rep W X.K X.w S H v x) (ry : Rep W X.K X.w S H u y) (e : evBin b x y = some z) (k : Out W X B S fs σ H z Q) : rB X b v u H Q := by
  cases b with
  | add =>
    unfold evBin at e
    split at e
    case h_1 i j q =>
      cases e
      rw [rx.int_inv, ry.int_inv]
      exact .inl ⟨i, j, rfl, rfl, k.here s (.i _)⟩
    case h_2 i j q =>
      split at e
      · cases e
        rw [rx.str_inv, ry.str_inv]
        exact .inr (.inl ⟨i, j, rfl, rfl, by assumption, k.here s (.s _)⟩)
      · cases e
    case h_3 a b q =>
      split at e
      · cases e
        obtain ⟨p1, v1, rfl, h1, r1⟩ := rx.tup_inv
        obtain ⟨p2, v2, rfl, h2, r2⟩ := ry.tup_inv
        refine .inr (.inr ⟨p1, p2, v1, v2, rfl, rfl, h1, h2, by rw [r1.len, r2.len]; assumption, fun n => ?_, fun _ n => ?_, fun _ _ p hp => ?_⟩)
        · subst n
          cases r1
          exact k.here s ry
        · subst n
          cases r2
          rw [List.append_nil] at k
          exact k.here s rx
        · exact k.tup s hp (r1.app r2)
      · cases e
    all_goals first
      | contradiction
      | cases e
  | sub =>
    unfold evBin at e
    split at e
    case h_4 i j q =>
      cases e
      rw [rx.int_inv, ry.int_inv]
      exact ⟨i, j, rfl, rfl, k.here s (.i _)⟩
    all_goals first
      | contradiction
      | cases e
  | mul =>
    unfold evBin at e
    split at e
    case h_5 i j q =>
      split at e
      · cases e
        rw [rx.int_inv, ry.int_inv]
        exact ⟨i, j, rfl, rfl, by assumption, k.here s (.i _)⟩
      · cases e
    all_goals first
      | contradiction
      | cases e
  | fdiv =>
    unfold evBin at e
    split at e
    case h_6 i j q =>
      split at e
      · cases e
        rw [rx.int_inv, ry.int_inv]
        exact ⟨i, j, rfl, rfl, by assumption, k.here s (.i _)⟩
      · cases e
    all_goals first
      | contradiction
      | cases e
  | mod =>
    unfold evBin at e
    split at e
    case h_7 i j q =>
      split at e
      · cases e
        rw [rx.int_inv, ry.int_inv]
        exact ⟨i, j, rfl, rfl, by assumption, k.here s (.i _)⟩
      · cases e
    all_goals first
      | contradiction
      | cases e
  | pow =>
    unfold evBin at e
    split at e <;> first
      | contradiction
      | cases e
def rA : BO → R2
  | .add => rI0 fun i j => .int (i + j)
  | .sub => rI0 fun i j => .int (i - j)
  | _ => fun _ _ _ _ => False
theorem rA_ok : ∀ b : BO, OpR X (inplaceOp (opB b)) (rA b)
  | .add => iop_add
  | .sub => iop_sub
  | .mul => fun _ _ _ _ _ _ _ _ _ _ _ _ h => h.elim
  | .fdiv => fun _ _ _ _ _ _ _ _ _ _ _ _ h => h.elim
  | .mod => fun _ _ _ _ _ _ _ _ _ _ _ _ h => h.elim
  | .pow => fun _ _ _ _ _ _ _ _ _ _ _ _ h => h.elim
theorem aug_rd (b : BO) (rx : Rep W X.K X.w S H v x) (ry : Rep W X.K X.w S H u y) (e : evAug b x y = some z) (k : ∀ w, Rep W X.K X.w S H w z → Q w H) : rA b v u H Q := by
  unfold evAug at e
  split at e
  · cases e
    rw [rx.int_inv, ry.int_inv]
    exact ⟨_, _, rfl, rfl, k _ (.i _)⟩
  · cases e
    rw [rx.int_inv, ry.int_inv]
    exact ⟨_, _, rfl, rfl, k _ (.i _)⟩
  · cases e
def opC : CO → CmpOp
  | .eq => .Eq
  | .ne => .NotEq
  | .lt => .Lt
  | .le => .LtE
  | .gt => .Gt
  | .ge => .GtE
  | .in_ => .In
  | .nin => .NotIn
/-- y in a dict that is tracked, or of the written part -/
def rDin (X : Cx) (neg : Bool) : R2 := fun x y H Q => (∃ a o, y = .ref a ∧ DGet H a x o ∧ Q (.bl (if neg then !o.isSome else o.isSome)) H) ∨
  ∃ (d : Addr) (es : Array DictEntry) (n : Nat) (z : Str) (r : Option Value), KDict X.K X.w d es n ∧ x = .str z ∧ y = .ref d ∧ PySem.W.nsIn X.K d z = some r ∧ Q (.bl (if neg then !r.isSome else r.isSome)) H
theorem din_ok (hu : X.A.units + 64 < cLine) : OpR X (compareOp .In) (rDin X false) := by
  intro pins s σ H x y v u Q I rx ry h
  rcases h with ⟨a, o, rfl, g, q⟩ | ⟨d, es, n, z, r, D, rfl, rfl, e, q⟩
  · cases ry
    exact d_in (by omega) I g rx fun s' I' => ⟨.bl _, H, I', rfl, q⟩
  · exact op_in_kd D pins s σ H _ _ v u Q I rx ry ⟨z, r, rfl, rfl, e, q⟩
theorem dnin_ok (hu : X.A.units + 64 < cLine) : OpR X (compareOp .NotIn) (rDin X true) := by
  intro pins s σ H x y v u Q I rx ry h
  rcases h with ⟨a, o, rfl, g, q⟩ | ⟨d, es, n, z, r, D, rfl, rfl, e, q⟩
  · cases ry
    exact d_notIn (by omega) I g rx fun s' I' => ⟨.bl _, H, I', rfl, q⟩
  · exact op_notIn_kd D pins s σ H _ _ v u Q I rx ry ⟨z, r, rfl, rfl, e, q⟩
/-- == of two dicts, their values plain data -/
inductive Hits (K : PySem.W.Frag) (H : Hp) (ls : List (Key × V)) : List (Key × V) → Bool → Prop
  | nil : Hits K H ls [] true
  | miss {k : Key} {v : V} {r : List (Key × V)} : valV ls k = none → Hits K H ls ((k, v) :: r) false
  | hit {k : Key} {v u : V} {d e : PyData} {r : List (Key × V)} {b : Bool} : valV ls k = some u → Dp K H v d → Dp K H u e → SeqAt.shaped d = true → SeqAt.shaped e = true → Hits K H ls r b → Hits K H ls ((k, v) :: r) (PyData.eqv d e && b)
def rDeq (X : Cx) (neg : Bool) : R2 := fun x y H Q => ∃ a b ks ls r, x = .ref a ∧ y = .ref b ∧ H a = some (.dK ks) ∧ H b = some (.dK ls) ∧ (ks.length = ls.length → Hits X.K H ls ks r) ∧
  Q (.bl (if neg then !(ks.length == ls.length && r) else (ks.length == ls.length && r))) H
theorem hits_of {pins : List (Addr × Obj)} {s : Shared} {vb : List (Key × Value)} {ls : List (Key × V)} {A : Around} (hu : A.in1.units + 64 < cLine) (I : Inv X pins σ H s) (rb : KV ls vb) : ∀ {ks : List (Key × V)} {r : Bool}, Hits X.K H ls ks r → ∀ {va : List (Key × Value)}, KV ks va → PySem.W.KeqHits A.in1 s vb va r
  | _, _, .nil, va, ra => by
    cases ra
    exact .nil
  | _, _, .miss (k := k) n, va, ra => by
    cases ra with
    | @cons p q ps qs h t =>
      obtain ⟨key, w⟩ := q
      obtain ⟨h1, h2⟩ := h
      subst h1
      refine .miss ?_
      have z := rb.val k
      rw [n] at z
      exact z.none_of
  | _, _, .hit (k := k) n d1 d2 c1 c2 t', va, ra => by
    cases ra with
    | @cons p q ps qs h t =>
      obtain ⟨key, w⟩ := q
      obtain ⟨h1, h2⟩ := h
      subst h1
      have z := rb.val k
      rw [n] at z
      obtain ⟨w', e1, e2⟩ := z.some_of
      obtain ⟨as, g1⟩ := Dp.reads I _ _ _ d1 h2
      obtain ⟨bs, g2⟩ := Dp.reads I _ _ _ d2 e2
      exact .hit e1 (PySem.W.keq_at g1 g2 c1 c2 hu) (hits_of hu I rb t' t)
theorem deq_ok (hu : X.A.in1.units + 64 < cLine) : OpR X (compareOp .Eq) (rDeq X false) := by
  intro pins s σ H x y v u Q I rx ry h
  obtain ⟨a, b, ks, ls, r, rfl, rfl, ha, hb, hh, q⟩ := h
  cases rx; cases ry
  obtain ⟨_, ya, va, ra, da⟩ := (show ObjOk X.prog X.w H s.heap a (.dK ks) from I.hok a _ ha)
  obtain ⟨_, yb, vb, rb, db⟩ := (show ObjOk X.prog X.w H s.heap b (.dK ls) from I.hok b _ hb)
  refine PySem.W.keq_eq (knd := mixKind X.prog X.w) (r := r) ya yb da db (by have : X.A.units ≤ X.A.in1.units := Nat.le_succ _; omega) (fun e => hits_of hu I rb (hh (by rw [ra.length, rb.length]; exact e)) ra) ⟨.bl _, H, I, rfl, ?_⟩
  rw [← ra.length, ← rb.length]
  exact q
theorem dne_ok (hu : X.A.in1.units + 64 < cLine) : OpR X (compareOp .NotEq) (rDeq X true) := by
  intro pins s σ H x y v u Q I rx ry h
  obtain ⟨a, b, ks, ls, r, rfl, rfl, ha, hb, hh, q⟩ := h
  cases rx; cases ry
  obtain ⟨_, ya, va, ra, da⟩ := (show ObjOk X.prog X.w H s.heap a (.dK ks) from I.hok a _ ha)
  obtain ⟨_, yb, vb, rb, db⟩ := (show ObjOk X.prog X.w H s.heap b (.dK ls) from I.hok b _ hb)
  refine PySem.W.keq_ne (knd := mixKind X.prog X.w) (r := r) ya yb da db (by have : X.A.units ≤ X.A.in1.units := Nat.le_succ _; omega) (fun e => hits_of hu I rb (hh (by rw [ra.length, rb.length]; exact e)) ra) ⟨.bl _, H, I, rfl, ?_⟩
  rw [← ra.length, ← rb.length]
  exact q
def rSg (neg : Bool) : R2 := fun x y H Q => ∃ (c : Nat) (z : Str), x = .str ⟨#[c]⟩ ∧ y = .str z ∧ Q (.bl (if neg then !decide (c ∈ z.cps.toList) else decide (c ∈ z.cps.toList))) H
def rC (X : Cx) : CO → R2
  | .eq => fun x y H Q => rDeq X false x y H Q ∨ rEqD X.K x y H Q ∨ rLsE X.K true x y H Q
  | .ne => fun x y H Q => rDeq X true x y H Q ∨ rNeD X.K x y H Q ∨ rLsE X.K false x y H Q
  | .lt => rI0 fun i j => .bl (decide (i < j))
  | .le => rI0 fun i j => .bl (decide (i ≤ j))
  | .gt => rI0 fun i j => .bl (decide (j < i))
  | .ge => rI0 fun i j => .bl (decide (j ≤ i))
  | .in_ => fun x y H Q => rSg false x y H Q ∨ rIn X.K false x y H Q ∨ rDin X false x y H Q
  | .nin => fun x y H Q => rSg true x y H Q ∨ rIn X.K true x y H Q ∨ rDin X true x y H Q
theorem rC_ok (hu : X.A.in1.units + 64 < cLine) : ∀ c : CO, OpR X (compareOp (opC c)) (rC X c)
  | .eq => OpR.or (deq_ok hu) (OpR.or (op_eqD (by have : X.A.units ≤ X.A.in1.units := Nat.le_succ _; omega)) (lsE_ok (by have : X.A.units ≤ X.A.in1.units := Nat.le_succ _; omega)))
  | .ne => OpR.or (dne_ok hu) (OpR.or (op_neD (by have : X.A.units ≤ X.A.in1.units := Nat.le_succ _; omega)) (lsN_ok (by have : X.A.units ≤ X.A.in1.units := Nat.le_succ _; omega)))
  | .lt => op_lt
  | .le => op_le
  | .gt => op_gt
  | .ge => op_ge
  | .in_ => OpR.or (fun pins s σ H x y v u Q I rx ry h => op_in_sign pins s σ H x y v u Q I rx ry h) (OpR.or op_in_seq (din_ok (by have : X.A.units ≤ X.A.in1.units := Nat.le_succ _; omega)))
  | .nin => OpR.or (fun pins s σ H x y v u Q I rx ry h => op_notIn_sign pins s σ H x y v u Q I rx ry h) (OpR.or op_notIn_seq (dnin_ok (by have : X.A.units ≤ X.A.in1.units := Nat.le_succ _; omega)))
end
end U
namespace U
open PySem PySem.Spec L2
section
variable {W : Wd} {X : Cx} {B : Base} {S S' S2 : Syn} {H H' H2 : Hp} {v u : V} {x y z : PV} {vs : List V} {xs : List PV} {fs fs' : FS} {σ : L2.St} {p : Addr} {o : HO} {h : Hb} {Q : VK}
theorem dEq_hits : ∀ {us : List (Key × V)} {a : List (Key × PV)}, us.map (·.1) = a.map (·.1) → Reps W X.K X.w S H (us.map (·.2)) (a.map (·.2)) →
    ∀ {ws : List (Key × V)} {b : List (Key × PV)}, ws.map (·.1) = b.map (·.1) → Reps W X.K X.w S H (ws.map (·.2)) (b.map (·.2)) → ∀ {r : Bool}, dEq a b = some r → Hits X.K H ws us r
  | [], [], _, _, ws, b, _, _, r, e => by cases e; exact .nil
  | [], _ :: _, e, _, _, _, _, _, _, _ => by cases e
  | _ :: _, [], e, _, _, _, _, _, _, _ => by cases e
  | (k', v) :: us, (k, y) :: a, e, rr, ws, b, eb, rb, r, q => by
    have e1 : k' = k := (List.cons.inj e).1
    subst e1
    cases rr with
    | cons h t =>
      have g := dGet_val (W := W) (K := X.K) (w := X.w) k' eb rb
      unfold dEq at q
      cases c : dGet b k' with
      | none =>
        rw [c] at g q
        cases q
        exact .miss g
      | some w =>
        rw [c] at g q
        obtain ⟨w', g1, g2⟩ := g
        have q' : (if plain y && plain w then (dEq a b).map (eqv y w && ·) else none) = some r := q
        by_cases pp : (plain y && plain w) = true
        · rw [if_pos pp] at q'
          obtain ⟨r', q1, q2⟩ := Option.map_eq_some_iff.mp q'
          subst q2
          obtain ⟨p1, p2⟩ := Bool.and_eq_true_iff.mp pp
          exact .hit g1 (Dp_of y v h (Bool.and_eq_true_iff.mp p1).1) (Dp_of w w' g2 (Bool.and_eq_true_iff.mp p2).1) p1 p2 (dEq_hits (List.cons.inj e).2 t eb rb q1)
        · rw [if_neg pp] at q'
          cases q'
theorem sameF_rep (rx : Rep W X.K X.w S H v x) (ry : Rep W X.K X.w S H u y) (e : sameF x y = true) : v = u ∧ flatB v = true := by
  cases x <;> cases y <;> first | cases e | skip
  · rw [rx.non_inv, ry.non_inv]; exact ⟨rfl, rfl⟩
  · rw [rx.bl_inv, ry.bl_inv, of_decide_eq_true e]; exact ⟨rfl, rfl⟩
  · rw [rx.int_inv, ry.int_inv, of_decide_eq_true e]; exact ⟨rfl, rfl⟩
  · rw [rx.str_inv, ry.str_inv, of_decide_eq_true e]; exact ⟨rfl, rfl⟩
theorem allP_rep {F : PV → PV → Bool} {G : V → V → Prop} (ih : ∀ x y v u, F x y = true → Rep W X.K X.w S H v x → Rep W X.K X.w S H u y → G v u) :
    ∀ {xs ys : List PV} {vs us : List V}, allP F xs ys = true → Reps W X.K X.w S H vs xs → Reps W X.K X.w S H us ys → Paired G vs us
  | [], [], _, _, _, r1, r2 => by cases r1; cases r2; exact .nil
  | [], _ :: _, _, _, e, _, _ => by cases e
  | _ :: _, [], _, _, e, _, _ => by cases e
  | x :: xs, y :: ys, _, _, e, r1, r2 => by
    cases r1 with
    | cons a1 b1 =>
      cases r2 with
      | cons a2 b2 =>
        obtain ⟨e1, e2⟩ := Bool.and_eq_true_iff.mp e
        exact .cons (ih _ _ _ _ e1 a1 a2) (allP_rep ih e2 b1 b2)
theorem allD_rep {F : PV → PV → Bool} {G : V → V → Prop} (ih : ∀ x y v u, F x y = true → Rep W X.K X.w S H v x → Rep W X.K X.w S H u y → G v u) {ws : List (Key × V)} {b : List (Key × PV)}
    (n2 : ws.map (·.1) = b.map (·.1)) (r2 : Reps W X.K X.w S H (ws.map (·.2)) (b.map (·.2))) :
    ∀ {us : List (Key × V)} {a : List (Key × PV)}, us.map (·.1) = a.map (·.1) → Reps W X.K X.w S H (us.map (·.2)) (a.map (·.2)) → allD F b a = true → ∀ p ∈ us, ∃ u, valV ws p.1 = some u ∧ G p.2 u
  | [], _, _, _, _, p, hp => by cases hp
  | _ :: _, [], e, _, _, _, _ => by cases e
  | (k', v) :: us, (k, y) :: a, e, rr, q, p, hp => by
    have e1 : k' = k := (List.cons.inj e).1
    subst e1
    cases rr with
    | cons h t =>
      obtain ⟨q1, q2⟩ := Bool.and_eq_true_iff.mp q
      rcases List.mem_cons.mp hp with rfl | hp
      · have g := dGet_val (W := W) (K := X.K) (w := X.w) k' n2 r2
        cases c : dGet b k' with
        | none => rw [c] at q1; cases q1
        | some w =>
          rw [c] at g q1
          obtain ⟨w', g1, g2⟩ := g
          exact ⟨w', g1, ih _ _ _ _ q1 h g2⟩
      · exact allD_rep ih n2 r2 (List.cons.inj e).2 t q2 p hp
theorem deepE_dic (s : HInv W X.K X.w S h H) {F : PV → PV → Bool} {G : V → V → Prop} (ih : ∀ x y v u, F x y = true → Rep W X.K X.w S H v x → Rep W X.K X.w S H u y → G v u) {x y : PV} {v u : V} (e : (match asD h x, asD h y with
      | some a, some b => decide (a.length = b.length) && allD F b a
      | _, _ => false) = true) (rx : Rep W X.K X.w S H v x) (ry : Rep W X.K X.w S H u y) : EqR X.K H G v u := by
  cases a1 : asD h x with
  | none => rw [a1] at e; cases e
  | some a =>
    cases a2 : asD h y with
    | none => rw [a1, a2] at e; cases e
    | some b =>
      rw [a1, a2] at e
      obtain ⟨e1, e2⟩ := Bool.and_eq_true_iff.mp e
      obtain ⟨p1, us, rfl, h1, n1, r1⟩ := asD_rep s rx a1
      obtain ⟨p2, ws, rfl, h2, n2, r2⟩ := asD_rep s ry a2
      have l1 : us.length = a.length := by simpa using congrArg List.length n1
      have l2 : ws.length = b.length := by simpa using congrArg List.length n2
      have l3 := of_decide_eq_true e1
      exact .inr ⟨p1, p2, us, ws, rfl, rfl, h1, h2, by omega, allD_rep ih n2 r2 n1 r1 e2⟩
theorem deepE_all (s : HInv W X.K X.w S h H) {F : PV → PV → Bool} {G : V → V → Prop} (ih : ∀ x y v u, F x y = true → Rep W X.K X.w S H v x → Rep W X.K X.w S H u y → G v u) {x y : PV} {v u : V} (e : (match asL h x, asL h y with
    | some xs, some ys => allP F xs ys
    | _, _ => match asD h x, asD h y with
      | some a, some b => decide (a.length = b.length) && allD F b a
      | _, _ => false) = true) (rx : Rep W X.K X.w S H v x) (ry : Rep W X.K X.w S H u y) : EqR X.K H G v u := by
  cases a1 : asL h x with
  | some xs =>
    cases a2 : asL h y with
    | some ys =>
      rw [a1, a2] at e
      obtain ⟨p1, vs, rfl, h1, r1⟩ := asL_rep s rx a1
      obtain ⟨p2, us, rfl, h2, r2⟩ := asL_rep s ry a2
      exact .inl ⟨p1, p2, vs, us, rfl, rfl, h1, h2, allP_rep ih e r1 r2⟩
    | none =>
      rw [a1, a2] at e
      exact deepE_dic s ih e rx ry
  | none =>
    rw [a1] at e
    exact deepE_dic s ih e rx ry
theorem deepE_rep (s : HInv W X.K X.w S h H) (n : Nat) : ∀ (x y : PV) (v u : V), deepE h n x y = true → Rep W X.K X.w S H v x → Rep W X.K X.w S H u y → EqV X.K H n v u := by
  induction n with
  | zero => intro x y v u e; cases e
  | succ n ih =>
    intro x y v u e rx ry
    unfold deepE at e
    rcases Bool.or_eq_true_iff.mp e with e | e
    · exact .inl (sameF_rep rx ry e)
    · exact .inr (.inr (deepE_all s ih e rx ry))
theorem eq_rd (neg : Bool) (s : HInv W X.K X.w S h H) (rx : Rep W X.K X.w S H v x) (ry : Rep W X.K X.w S H u y) {b : Bool} (e : evEq h x y = some b) (q : Q (.bl (if neg then !b else b)) H) :
    rDeq X neg v u H Q ∨ (∃ d e, Dp X.K H v d ∧ Dp X.K H u e ∧ SeqAt.shaped d = true ∧ SeqAt.shaped e = true ∧ Q (.bl (if neg then !PyData.eqv d e else PyData.eqv d e)) H) ∨ rLsE X.K (!neg) v u H Q := by
  unfold evEq at e
  split at e
  case h_1 a c e1 e2 =>
    obtain ⟨p1, us, rfl, h1, n1, r1⟩ := asD_rep s rx e1
    obtain ⟨p2, ws, rfl, h2, n2, r2⟩ := asD_rep s ry e2
    have l1 : us.length = a.length := by simpa using congrArg List.length n1
    have l2 : ws.length = c.length := by simpa using congrArg List.length n2
    by_cases l : a.length = c.length
    · rw [if_pos l] at e
      refine .inl ⟨p1, p2, us, ws, b, rfl, rfl, h1, h2, fun _ => dEq_hits n1 r1 n2 r2 e, ?_⟩
      rw [show (us.length == ws.length) = true from beq_iff_eq.mpr (by omega), Bool.true_and]
      exact q
    · rw [if_neg l] at e
      cases e
      refine .inl ⟨p1, p2, us, ws, false, rfl, rfl, h1, h2, fun z => absurd (by omega) l, ?_⟩
      rw [Bool.and_false]
      exact q
  case h_2 =>
    by_cases pp : (plain (thaw h x) && plain (thaw h y)) = true
    · rw [if_pos pp] at e
      cases e
      obtain ⟨p1, p2⟩ := Bool.and_eq_true_iff.mp pp
      exact .inr (.inl ⟨_, _, Dp_thaw s rx p1, Dp_thaw s ry p2, p1, p2, q⟩)
    · rw [if_neg pp] at e
      split at e
      case h_1 xs ys a1 a2 =>
        obtain ⟨p1, vs, rfl, h1, r1⟩ := asL_rep s rx a1
        obtain ⟨p2, us, rfl, h2, r2⟩ := asL_rep s ry a2
        split at e
        case isTrue c =>
          cases e
          refine .inr (.inr ⟨p1, p2, vs, us, rfl, rfl, h1, h2, allP_rep (deepE_rep s 8) c r1 r2, ?_⟩)
          cases neg <;> exact q
        case isFalse => cases e
      case h_2 => cases e
theorem in_rd (neg : Bool) (s : HInv W X.K X.w S h H) (rx : Rep W X.K X.w S H v x) (ry : Rep W X.K X.w S H u y) {b : Bool} (e : evIn h x y = some b) (q : Q (.bl (if neg then !b else b)) H) :
    rSg neg v u H Q ∨ rIn X.K neg v u H Q ∨ rDin X neg v u H Q := by
  unfold evIn at e
  split at e
  case h_1 a z =>
    split at e
    case h_1 c l =>
      cases e
      rw [rx.str_inv, ry.str_inv]
      have ea : a = ⟨#[c]⟩ := by
        obtain ⟨⟨l'⟩⟩ := a
        cases l
        rfl
      subst ea
      exact .inl ⟨c, z, rfl, rfl, q⟩
    · cases e
  case h_2 a ks ws =>
    cases e
    rw [rx.str_inv]
    obtain ⟨p, rfl, d⟩ := ry.kdc_inv
    obtain ⟨es, n, D⟩ := d.d
    have g := d.g a
    cases c : dGet (zipD ks ws) (.inr a) with
    | none =>
      rw [c] at g q
      exact .inr (.inr (.inr ⟨p, es, n, a, none, D, rfl, rfl, g, q⟩))
    | some y =>
      rw [c] at g q
      obtain ⟨u', v', g1, _⟩ := g
      exact .inr (.inr (.inr ⟨p, es, n, a, some u', D, rfl, rfl, g1, q⟩))
  case h_3 =>
    split at e
    case h_1 ys el =>
      by_cases f : (flat x && ys.all flat) = true
      · rw [if_pos f] at e
        cases e
        obtain ⟨f1, f2⟩ := Bool.and_eq_true_iff.mp f
        obtain ⟨p, vs, rfl, h1, r1⟩ := asS_rep s ry el
        obtain ⟨g1, g2⟩ := rx.flat f1
        obtain ⟨k1, k2⟩ := inV_of r1 f2 g1
        refine .inr (.inl ⟨p, vs, rfl, h1, g2, k2, ?_⟩)
        rw [k1]
        exact q
      · rw [if_neg f] at e
        cases e
    case h_2 =>
      split at e
      case h_1 kvs k e1 e2 =>
        cases e
        have ek := keyOf_rep rx e2
        subst ek
        obtain ⟨p, us, rfl, h1, n1, r1⟩ := asD_rep s ry e1
        refine .inr (.inr (.inl ⟨p, valV us k, rfl, DGet.k h1, ?_⟩))
        have g := dGet_val (W := W) (K := X.K) (w := X.w) k n1 r1
        cases c : dGet kvs k with
        | none =>
          rw [c] at g q
          rw [g]
          exact q
        | some z =>
          rw [c] at g q
          obtain ⟨w', g1, _⟩ := g
          rw [g1]
          exact q
      · cases e
theorem cmp_rd (c : CO) (s : HInv W X.K X.w S h H) (rx : Rep W X.K X.w S H v x) (ry : Rep W X.K X.w S H u y) {b : Bool} (e : evCmp c h x y = some b) (q : Q (.bl b) H) : rC X c v u H Q := by
  cases c with
  | eq => exact eq_rd false s rx ry e q
  | ne =>
    obtain ⟨b', e1, e2⟩ := Option.map_eq_some_iff.mp (show (evEq h x y).map (!·) = some b from e)
    subst e2
    exact eq_rd true s rx ry e1 q
  | lt =>
    unfold evCmp at e
    split at e
    · split at e
      · cases e
        rw [rx.int_inv, ry.int_inv]
        exact ⟨_, _, rfl, rfl, q⟩
      · cases e
    all_goals contradiction
  | le =>
    unfold evCmp at e
    split at e
    case h_2 =>
      split at e
      · cases e
        rw [rx.int_inv, ry.int_inv]
        exact ⟨_, _, rfl, rfl, q⟩
      · cases e
    all_goals contradiction
  | gt =>
    unfold evCmp at e
    split at e
    case h_3 =>
      split at e
      · cases e
        rw [rx.int_inv, ry.int_inv]
        exact ⟨_, _, rfl, rfl, q⟩
      · cases e
    all_goals contradiction
  | ge =>
    unfold evCmp at e
    split at e
    case h_4 =>
      split at e
      · cases e
        rw [rx.int_inv, ry.int_inv]
        exact ⟨_, _, rfl, rfl, q⟩
      · cases e
    all_goals contradiction
  | in_ => exact in_rd false s rx ry e q
  | nin =>
    obtain ⟨b', e1, e2⟩ := Option.map_eq_some_iff.mp (show (evIn h x y).map (!·) = some b from e)
    subst e2
    exact in_rd true s rx ry e1 q
theorem Reps.atI (r : Reps W X.K X.w S H vs xs) {i : Int} (e : L2.atI xs i = some x) : ∃ v, L2.atI vs i = some v ∧ Rep W X.K X.w S H v x := by
  unfold L2.atI at e ⊢
  rw [r.len]
  cases c : ixN xs.length i with
  | none => rw [c] at e; cases e
  | some j =>
    rw [c] at e
    exact r.get j e
def rDix (X : Cx) : R2 := fun x y H Q => (∃ a v, x = .ref a ∧ DGet H a y (some v) ∧ Q v H) ∨
  ∃ (d : Addr) (es : Array DictEntry) (n : Nat) (z : Str) (u0 : Value) (v0 : V), KDict X.K X.w d es n ∧ x = .ref d ∧ y = .str z ∧ PySem.W.nsIn X.K d z = some (some u0) ∧ RelV v0 u0 ∧ Q v0 H
def rI_ (X : Cx) : R2 := fun x y H Q => rIxL X.K x y H Q ∨ rIxT X.K x y H Q ∨ rIxS x y H Q ∨ rDix X x y H Q
theorem ix_rd (s : HInv W X.K X.w S h H) (rx : Rep W X.K X.w S H v x) (ry : Rep W X.K X.w S H u y) (e : evIx h x y = some z) (q : ∀ w, Rep W X.K X.w S H w z → Q w H) : rI_ X v u H Q := by
  unfold evIx at e
  split at e
  case h_1 t i =>
    by_cases l : t.length ≤ sizeLine
    · rw [if_pos l] at e
      obtain ⟨c, e1, e2⟩ := Option.map_eq_some_iff.mp e
      subst e2
      rw [rx.str_inv, ry.int_inv]
      exact .inr (.inr (.inl ⟨t, i, c, rfl, rfl, l, e1, q _ (.s _)⟩))
    · rw [if_neg l] at e
      cases e
  case h_2 ks ws t =>
    rw [ry.str_inv]
    obtain ⟨p, rfl, d⟩ := rx.kdc_inv
    obtain ⟨es, n, D⟩ := d.d
    have g := d.g t
    rw [e] at g
    obtain ⟨u', v', g1, g2, g3⟩ := g
    exact .inr (.inr (.inr (.inr ⟨p, es, n, t, u', v', D, rfl, rfl, g1, g2, q _ (.sc g3)⟩)))
  case h_3 =>
    split at e
    case h_1 ys el =>
      split at e
      · obtain ⟨p, vs, rfl, h1, r1⟩ := asS_rep s rx el
        obtain ⟨w, h2, r2⟩ := r1.atI e
        rw [ry.int_inv]
        rcases h1 with h1 | h1
        · exact .inl ⟨p, vs, _, w, rfl, rfl, h1, h2, q _ r2⟩
        · exact .inr (.inl ⟨p, vs, _, w, rfl, rfl, h1, h2, q _ r2⟩)
      · cases e
    case h_2 =>
      split at e
      case h_1 kvs k e1 e2 =>
        have ek := keyOf_rep ry e2
        subst ek
        obtain ⟨p, us, rfl, h1, n1, r1⟩ := asD_rep s rx e1
        have g := dGet_val (W := W) (K := X.K) (w := X.w) k n1 r1
        rw [e] at g
        obtain ⟨w', g1, g2⟩ := g
        exact .inr (.inr (.inr (.inl ⟨p, w', rfl, g1 ▸ DGet.k h1, q _ g2⟩)))
      · cases e
end
end U
namespace U
open PySem PySem.Spec L2
def notStar : Expr → Bool
  | .Starred .. => false
  | _ => true
def noStars (es : List Expr) : Bool := es.all notStar
theorem star_cons {e : Expr} {es : List Expr} {env : Env} (h : notStar e = true) : starEach (e :: es) env = (false, eval e env) :: starEach es env := by
  cases e <;> first
    | rfl
    | cases h
theorem star_none (pos : Pos) (env : Env) : ∀ es : List Expr, noStars es = true → (backTo pos (starEach es env)).any (·.1) = false
  | [], _ => rfl
  | e :: es, h => by
    have h2 := Bool.and_eq_true_iff.mp (show (notStar e && noStars es) = true from h)
    rw [star_cons h2.1]
    show (false || (backTo pos (starEach es env)).any (·.1)) = false
    rw [star_none pos env es h2.2]
    rfl
theorem star_all (pos : Pos) (env : Env) : ∀ es : List Expr, noStars es = true → (backTo pos (starEach es env)).all (fun x => !x.1) = true
  | [], _ => rfl
  | e :: es, h => by
    have h2 := Bool.and_eq_true_iff.mp (show (notStar e && noStars es) = true from h)
    rw [star_cons h2.1]
    show (!false && (backTo pos (starEach es env)).all (fun x => !x.1)) = true
    rw [star_all pos env es h2.2]
    rfl
/-- no super().m -/
def notCall0 : Expr → Bool
  | .Call (.Name _ _) [] [] _ => false
  | _ => true
theorem base_of {o : Expr} {m : Str} {env : Env} {wh : Sem Value} (h : notCall0 o = true) : attributeBase o m env wh = wh := by
  unfold attributeBase
  split
  · cases h
  · rfl
/-- a test that is a value's truth -/
def plainT : Expr → Bool
  | .UnaryOp .Not _ _ => false
  | .BoolOp .. => false
  | .IfExp .. => false
  | .Compare .. => false
  | _ => true
theorem isTrue_of {e : Expr} {env : Env} (h : plainT e = true) (whole : Sem Value) : isTrue e env whole = (do let v ← whole; standAt e.pos; holding [v] (truthy v)) := by
  cases e with
  | UnaryOp op x p => cases op <;> first
    | rfl
    | cases h
  | BoolOp => cases h
  | IfExp => cases h
  | Compare => cases h
  | _ => rfl
def notComp : Expr → Bool
  | .ListComp .. => false
  | .SetComp .. => false
  | .DictComp .. => false
  | _ => true
theorem swaps_of {e : Expr} {t : Option Expr} {l : Nat} {env : Env} (h : notComp e = true) : swapsWith e t l env = pure false := by
  cases e <;> first
    | rfl
    | cases h
def notSlice : Expr → Bool
  | .Slice .. => false
  | _ => true
theorem plainIx_of {e : Expr} (h : notSlice e = true) : PlainIx e := by
  intro o i
  cases e <;> first
    | rfl
    | cases h
theorem aug_of {i : Expr} (h : notSlice i = true) : ∀ ov iv new, augStore i ov iv new = (do holding [new, ov, iv] (setItem ov iv new); release [new, ov, iv] []; pure .next) := by
  intro ov iv new
  cases i <;> first
    | rfl
    | cases h
theorem asgSub_of {o i : Expr} {pos : Pos} {env : Env} (h : notSlice i = true) : ∀ v, assign (.Subscript o i pos) env v = (do
      let ov ← holding [v] (eval o env)
      let iv ← holding [v, ov] (eval i env)
      standAt pos
      holding [v, ov, iv] (setItem ov iv v)
      release [v, ov, iv] []) := by
  intro v
  cases i <;> first
    | rfl
    | cases h
/-- a list, a set, written: folded in a loop's head -/
theorem meth_of {o : Expr} {m : Str} {apos pos : Pos} {args : List Expr} {env : Env} (hb : notCall0 o = true) (hs : noStars args = true) (hl : (apos.endLine == pos.line) = true) (hn : args.length < 30) :
    eval (.Call (.Attribute o m apos) args [] pos) env = (do
      let ov ← eval o env
      standAt apos.atName
      let (f, first) ← holding [ov] (getMethod ov m (do return (← importBound o env).getD true))
      callWith pos f first (backTo pos (starEach args env)) (backToKw pos (keywordEach [] env))) := by
  have hf : methodCallForm (args.length + ([] : List Keyword).length) (backTo pos (starEach args env)) (backToKw pos (keywordEach [] env)) = true := by
    unfold methodCallForm
    rw [star_all pos env args hs]
    show (true && true && decide (args.length + 0 + 0 < 30)) = true
    rw [decide_eq_true (by omega)]
    rfl
  show (do
    let ov ← attributeBase o m env (eval o env)
    standAt apos.atName
    methodCall o m apos pos env ov (args.length + ([] : List Keyword).length) (backTo pos (starEach args env)) (backToKw pos (keywordEach [] env))) = _
  rw [base_of hb]
  unfold methodCall
  rw [hf]
  have hp : methodCallPos true o env apos pos = pure pos := by
    unfold methodCallPos
    rw [hl]
    rfl
  rw [hp]
  rfl
end U
namespace U
open PySem PySem.Spec L2
/-- what is known of the classes, defs, constants behind the top -/
structure Kf (W : Wd) (K : PySem.W.Frag) (w : World) (mg : Str → Option Value) : Prop where
  gcl : ∀ c cl, W.G.cls c = some cl → mg (W.cn c) = some (.ref (ca W K c))
  kcl : ∀ c cl, W.G.cls c = some cl → PySem.W.keepIn K (.ref (ca W K c)) = true
  cls : ∀ c cl, W.G.cls c = some cl → cl.exc = false → Cls K (ca W K c)
  mkI : ∀ c cl f, W.G.cls c = some cl → cl.exc = false → cl.init = some f → PySem.W.makesIn K (ca W K c) = true ∧ PySem.W.findIn K (.ref (ca W K c)) "__init__" = some (some (.ref (fa W K f))) ∧ PySem.W.isFn K (.ref (fa W K f)) = true
  mkN : ∀ c cl, W.G.cls c = some cl → cl.exc = false → cl.init = none → cl.froz = true → cl.flds = [] ∧ PySem.W.makesIn K (ca W K c) = true ∧ PySem.W.findIn K (.ref (ca W K c)) "__init__" = some (some (.builtin "object.__init__"))
  noat : ∀ c cl k, W.G.cls c = some cl → cl.exc = false → k ∈ cl.flds → NoAttr K (ca W K c) (W.an k)
  inj : ∀ c cl k j, W.G.cls c = some cl → k ∈ cl.flds → j ∈ cl.flds → W.an k = W.an j → k = j
  meth : ∀ c cl m f, W.G.cls c = some cl → W.G.meth c m = some f → cl.exc = false ∧ Meth K (ca W K c) (W.mn m) (fa W K f) ∧ ∀ k ∈ cl.flds, W.an k ≠ W.mn m
  kwm : ∀ c m f, W.G.meth c m = some f → ∀ p ∈ W.kwm m, (p.1 + 1, p.2) ∈ W.kw f
  gfn : ∀ f fd, W.G.fns f = some fd → (W.fat f).2 = none → mg (W.fat f).1 = some (.ref (fa W K f))
  kfn : ∀ f fd, W.G.fns f = some fd → PySem.W.keepIn K (.ref (fa W K f)) = true
  gcs : ∀ g x, W.G.gcs g = some x → ∃ v u, mg (W.gn g) = some u ∧ RelV v u ∧ ∀ S H, Rep W K w S H v x
  blt : ∀ x ∈ bnames, mg x = none
  isc : ∀ c cl d dl, W.G.cls c = some cl → cl.exc = false → W.G.cls d = some dl → PySem.W.kitOne K (.ref (ca W K c)) (.ref (ca W K d)) = some (cl.sups.contains d)
  isb : ∀ n d dl, n ∈ tynames → W.G.cls d = some dl → PySem.W.kitOne K (.type n) (.ref (ca W K d)) = some false
  ist : ∀ c cl n, W.G.cls c = some cl → cl.exc = false → n ∈ tynames → PySem.W.kitOne K (.ref (ca W K c)) (.type n) = some false
  isx : ∀ c cl, W.G.cls c = some cl → cl.exc = false → PySem.W.findIn K (.ref (ca W K c)) "__class__" = some (some (.builtin "object.__class__")) ∧ PySem.W.specialIn K (.builtin "object.__class__") "__get__" = some (some (.builtin "getset_descriptor.__get__")) ∧
    PySem.W.takesIn K (.builtin "object.__class__") = some true ∧ PySem.W.mroIn K (ca W K c) (.type "object") = some true
  exc : ∀ c cl, W.G.cls c = some cl → cl.exc = true → cl.flds = [] → PySem.W.excIn K (ca W K c) He.veBase "ValueError.__new__" = true ∧ PySem.W.subIn K (.ref (ca W K c)) (.type "BaseException") = some true ∧ PySem.W.typeIn K (.ref (ca W K c)) = some (.type "type")
  exm : ∀ c cl d dl, W.G.cls c = some cl → cl.exc = true → W.G.cls d = some dl → dl.exc = true → PySem.W.exmOne K (.ref (ca W K c)) (.ref (ca W K d)) = some (cl.sups.contains d)
/-- an exception -/
def ExR (W : Wd) (K : PySem.W.Frag) (c : Nat) (vs : List PV) (cls : Value) (d : Option Addr) : Prop := cls = .ref (ca W K c) ∧ vs = [] ∧ d = none
def delH (H : Hp) (p : Addr) : Hp := fun b => if b = p then none else H b
/-- what a call is to bring -/
def PostC (W : Wd) (K : PySem.W.Frag) (w : World) (S : Syn) (H : Hp) (Q : VK) (E : XK) : R Hb PV → Prop
  | .ok x h' => ∀ v H' S', HInv W K w S' h' H' → Rel S H S' H' → Rep W K w S' H' v x → Q v H'
  | .ex c vs h' => ∀ cls d H' S', HInv W K w S' h' H' → Rel S H S' H' → ExR W K c vs cls d → E cls d H'
  | .no => False
/-- what a new list, a new dict is -/
def FrR (W : Wd) (K : PySem.W.Frag) (w : World) (S : Syn) (H : Hp) (p : Addr) : PV → Prop
  | .lst xs => ∃ vs, H p = some (.lst vs) ∧ Reps W K w S H vs xs
  | .dic ks xs => ∃ kvs : List (Key × V), H p = some (.dK kvs) ∧ kvs.map (·.1) = ks ∧ Reps W K w S H (kvs.map (·.2)) xs
  | _ => False
def isFr : PV → Bool
  | .lst _ => true
  | .dic _ _ => true
  | _ => false
def PostF (W : Wd) (K : PySem.W.Frag) (w : World) (S : Syn) (H : Hp) (Q : VK) (E : XK) : R Hb PV → Prop
  | .ok x h' => isFr x = true ∧ ∀ p H' S', HInv W K w S' h' H' → Rel S H S' H' → H p = none → ¬ S'.F p → p ∉ S'.rh → FrR W K w S' H' p x → Q (.ref p) H'
  | .ex c vs h' => ∀ cls d H' S', HInv W K w S' h' H' → Rel S H S' H' → ExR W K c vs cls d → E cls d H'
  | .no => False
/-- what an __init__ of a frozen class is to bring: p the new instance -/
def PostI (W : Wd) (K : PySem.W.Frag) (w : World) (S : Syn) (H : Hp) (p : Addr) (Q : VK) (E : XK) : R Hb PV → Prop
  | .ok (.ins c xs) h' => ∀ H' S' dx fs cl, HInv W K w S' h' H' → Rel S (delH H p) S' H' → ¬ S'.F p → p ∉ S'.rh → H' p = some (.ins (ca W K c) dx fs) → W.G.cls c = some cl → fs.map (·.1) = cl.flds.map W.an → Reps W K w S' H' (fs.map (·.2)) xs → Q .non H'
  | .ok _ _ => False
  | .ex c vs h' => ∀ cls d H' S', HInv W K w S' h' H' → Rel S (delH H p) S' H' → ExR W K c vs cls d → E cls d H'
  | .no => False
/-- a def's promise -/
def spF (W : Wd) (K : PySem.W.Frag) (w : World) (cal : Cal) (f : Nat) (fd : Fd) : Sp := fun vs H Q E => match fd.kind with
  | none => ∃ S h args, HInv W K w S h H ∧ Reps W K w S H vs args ∧ (match fd.fresh with
      | false => PostC W K w S H Q E (cal f (dft W.G f args) h)
      | true => PostF W K w S H Q E (cal f (dft W.G f args) h))
  | some c => ∃ S h args p dx us, vs = .ref p :: us ∧ H p = some (.ins (ca W K c) dx []) ∧ ¬ S.F p ∧ p ∉ S.rh ∧ HInv W K w S h (delH H p) ∧ Reps W K w S (delH H p) us args ∧
      PostI W K w S H p Q E (cal f (dft W.G f args) h)
/-- a promise by values in the parameters' order, the last of them by keywords where kw has it so -/
def FnQ (P : Program) (w : World) (K : PySem.W.Frag) (mg : Str → Option Value) (base : Heap) (k : Nat) (f : Addr) (kw : List (Nat × List Str)) (sp : Sp) : Prop :=
  ∀ (A : Around) (outer : List Env) (s : Shared) (H : Hp) (us ws : List Value) (ks : List Str) (vs : List V) (Q : VK) (E : XK), Room k A → Env0 P w K mg base A outer s H → Vals vs (us ++ ws) → ws.length = ks.length →
    (ks = [] ∨ (us.length, ks) ∈ kw) → sp vs H Q E → codeAny (model P w) A (.call (.ref f) ⟨us, ks.zip ws⟩) (CR (CX P w) outer P w H s Q E) s
/-- all defs keep their promises, by at most k calls -/
def Fns (W : Wd) (P : Program) (w : World) (K : PySem.W.Frag) (mg : Str → Option Value) (base : Heap) (cal : Cal) (k : Nat) : Prop :=
  ∀ f fd, W.G.fns f = some fd → FnQ P w K mg base k (fa W K f) (W.kw f) (spF W K w cal f fd)
end U
namespace U
open PySem PySem.Spec L2 PyProof.Rows
theorem PE.mono {X : Cx} {e : Expr} {t t' : TE} (h : PE X e t) (k : ∀ σ H Q, t' σ H Q → t σ H Q) : PE X e t' := ⟨fun pins s σ H Q I q => h.run pins s σ H Q I (k _ _ _ q)⟩
theorem PT.mono {X : Cx} {e : Expr} {t t' : TT} (h : PT X e t) (k : ∀ σ H Q, t' σ H Q → t σ H Q) : PT X e t' := ⟨fun pins s σ H Q I q => h.run pins s σ H Q I (k _ _ _ q)⟩
theorem PW.mono {X : Cx} {e : Expr} {t t' : TT} (h : PW X e t) (k : ∀ σ H Q, t' σ H Q → t σ H Q) : PW X e t' := ⟨fun wh pins s σ H Q I q => h.run wh pins s σ H Q I (k _ _ _ q)⟩
theorem PO.mono {X : Cx} {e : Option Expr} {t t' : TO} (h : PO X e t) (k : ∀ σ H Q, t' σ H Q → t σ H Q) : PO X e t' := ⟨fun pins s σ H Q I q => h.run pins s σ H Q I (k _ _ _ q)⟩
theorem PS.mono {X : Cx} {e : Stmt} {t t' : TS} (h : PS X e t) (k : ∀ D σ H, t' D σ H → t D σ H) : PS X e t' := ⟨fun pins s σ H Q I q => h.run pins s σ H Q I (k _ _ _ q)⟩
theorem PSs.mono {X : Cx} {e : List Stmt} {t t' : TS} (h : PSs X e t) (k : ∀ D σ H, t' D σ H → t D σ H) : PSs X e t' := ⟨fun pins s σ H Q I q => h.run pins s σ H Q I (k _ _ _ q)⟩
abbrev RRel (ν α : Type) := Base → Syn → FS → L2.St → Hp → ν → α → Prop
section
variable {ν μ α β : Type} (W : Wd) (X : Cx) (wx : WX)
def rV : RRel V PV := fun _ S _ _ H v x => Rep W X.K X.w S H v x
def rVs : RRel (List V) (List PV) := fun _ S _ _ H v x => Reps W X.K X.w S H v x
def rId : RRel α α := fun _ _ _ _ _ v x => v = x
/-- a new list, a new dict -/
def rL : RRel V (List PV) := fun B S fs σ H v xs => ∃ p vs, v = .ref p ∧ Loose B S fs σ p ∧ H p = some (.lst vs) ∧ Reps W X.K X.w S H vs xs
def rD : RRel V (List (Key × PV)) := fun B S fs σ H v kvs => ∃ p us, v = .ref p ∧ Loose B S fs σ p ∧ H p = some (.dK us) ∧ us.map (·.1) = kvs.map (·.1) ∧ Reps W X.K X.w S H (us.map (·.2)) (kvs.map (·.2))
/-- what is wanted behind a reckoning -/
def Pst (RR : RRel ν α) (σ : L2.St) (B : Base) (S : Syn) (H : Hp) (Q : ν → Hp → Prop) : R FS α → Prop
  | .ok a fs' => ∀ v H' S', Sim W X.K X.w B S' fs' σ H' → Ext S H S' H' → RR B S' fs' σ H' v a → Q v H'
  | .ex c vs fs' => ∀ cls d H' S', Sim W X.K X.w B S' fs' σ H' → Ext S H S' H' → ExR W X.K c vs cls d → wx cls d σ H'
  | .no => False
def rd (RR : RRel ν α) (r : FS → R FS α) : L2.St → Hp → (ν → Hp → Prop) → Prop := fun σ H Q => ∃ B S fs, Sim W X.K X.w B S fs σ H ∧ Pst W X wx RR σ B S H Q (r fs)
end
section
variable {ν μ α β : Type} {W : Wd} {X : Cx} {wx : WX} {RR : RRel ν α} {RR' : RRel μ β} {σ : L2.St} {B : Base} {S S' S2 : Syn} {H H' H2 : Hp} {Q Q1 : ν → Hp → Prop} {Q' : μ → Hp → Prop} {r : R FS α} {fs fs' : FS}
theorem Pst.later (h : Pst W X wx RR σ B S H Q r) (e : Ext S H S' H') : Pst W X wx RR σ B S' H' Q r := by
  cases r with
  | ok a fs' => exact fun v H2 S2 s e2 r => h v H2 S2 s (e.trans e2) r
  | ex c vs fs' => exact fun cls d H2 S2 s e2 r => h cls d H2 S2 s (e.trans e2) r
  | no => exact h
theorem Pst.mono (h : Pst W X wx RR σ B S H Q r) (k : ∀ v H', Q v H' → Q1 v H') : Pst W X wx RR σ B S H Q1 r := by
  cases r with
  | ok a fs' => exact fun v H2 S2 s e2 r => k _ _ (h v H2 S2 s e2 r)
  | ex c vs fs' => exact h
  | no => exact h
theorem Pst.bind {k : α → FS → R FS β} (h : Pst W X wx RR' σ B S H Q' (r.bind k)) : Pst W X wx RR σ B S H (fun v H1 => ∃ S1 fs1 a, Sim W X.K X.w B S1 fs1 σ H1 ∧ Ext S H S1 H1 ∧ RR B S1 fs1 σ H1 v a ∧ Pst W X wx RR' σ B S1 H1 Q' (k a fs1)) r := by
  cases r with
  | ok a fs' => exact fun v H1 S1 s e q => ⟨S1, fs', a, s, e, q, h.later e⟩
  | ex c vs fs' => exact h
  | no => exact h
/-- one reckoning behind another -/
theorem Pst.go {k : α → FS → R FS β} (s : Sim W X.K X.w B S fs σ H) {f : FS → R FS α} (h : Pst W X wx RR' σ B S H Q' ((f fs).bind k))
    (q : ∀ v H1 S1 fs1 a, Sim W X.K X.w B S1 fs1 σ H1 → Ext S H S1 H1 → RR B S1 fs1 σ H1 v a → Pst W X wx RR' σ B S1 H1 Q' (k a fs1) → Q1 v H1) : rd W X wx RR f σ H Q1 :=
  ⟨B, S, fs, s, h.bind.mono fun v H1 ⟨S1, fs1, a, s1, e1, r1, h1⟩ => q v H1 S1 fs1 a s1 e1 r1 h1⟩
theorem Pst.opt {o : Option α} (h : Pst W X wx RR σ B S H Q (R.opt fs o)) : ∃ z, o = some z ∧ Pst W X wx RR σ B S H Q (.ok z fs) := by
  cases o with
  | none => exact h.elim
  | some z => exact ⟨z, rfl, h⟩
theorem Pst.here {a : α} {v : ν} (h : Pst W X wx RR σ B S H Q (.ok a fs)) (s : Sim W X.K X.w B S fs σ H) (r : RR B S fs σ H v a) : Q v H := h v H S s .refl r
theorem Pst.out {z : PV} {Q : VK} (h : Pst W X wx (rV W X) σ B S H Q (.ok z fs)) : Out W X B S fs σ H z Q := fun v H' S' s e r => h v H' S' s e r
end
def kwName (k : Keyword) : Option Str := match k with
  | ⟨n, _, _⟩ => n
def kwOk (kws : List Keyword) : Bool := kws.all fun k => (kwName k).isSome
def kwNames (kws : List Keyword) : List Str := kws.filterMap kwName
theorem kw_all (pos : Pos) (env : Env) : ∀ kws : List Keyword, kwOk kws = true → (backToKw pos (keywordEach kws env)).all (·.1.isSome) = true
  | [], _ => rfl
  | ⟨n, e, p⟩ :: r, h => by
    have h2 := Bool.and_eq_true_iff.mp (show (n.isSome && kwOk r) = true from h)
    show (n.isSome && (backToKw pos (keywordEach r env)).all (·.1.isSome)) = true
    rw [h2.1, kw_all pos env r h2.2]
    rfl
theorem kw_none (pos : Pos) (env : Env) : ∀ kws : List Keyword, kwOk kws = true → (backToKw pos (keywordEach kws env)).any (·.1.isNone) = false
  | [], _ => rfl
  | ⟨n, e, p⟩ :: r, h => by
    have h2 := Bool.and_eq_true_iff.mp (show (n.isSome && kwOk r) = true from h)
    show (n.isNone || (backToKw pos (keywordEach r env)).any (·.1.isNone)) = false
    rw [kw_none pos env r h2.2]
    cases n with
    | none => cases h2.1
    | some x => rfl
theorem kw_names (pos : Pos) (env : Env) : ∀ kws : List Keyword, (backToKw pos (keywordEach kws env)).filterMap (·.1) = kwNames kws
  | [] => rfl
  | ⟨n, e, p⟩ :: r => by
    have ih := kw_names pos env r
    cases n with
    | none => exact ih
    | some x => exact congrArg (x :: ·) ih
theorem kw_len : ∀ kws : List Keyword, kwOk kws = true → (kwNames kws).length = kws.length
  | [], _ => rfl
  | ⟨n, e, p⟩ :: r, h => by
    have h2 := Bool.and_eq_true_iff.mp (show (n.isSome && kwOk r) = true from h)
    cases n with
    | none => cases h2.1
    | some x => exact congrArg Nat.succ (kw_len r h2.2)
/-- lists of one length -/
def Sln {α β : Type} : List α → List β → Prop
  | [], [] => True
  | _ :: r, _ :: t => Sln r t
  | _, _ => False
theorem Sln.len {α β : Type} : ∀ {r : List α} {t : List β}, Sln r t → r.length = t.length
  | [], [], _ => rfl
  | _ :: _, _ :: _, h => congrArg Nat.succ (Sln.len (show Sln _ _ from h))
  | [], _ :: _, h => h.elim
  | _ :: _, [], h => h.elim
/-- positional arguments, then keywords -/
def PAK (X : Cx) (es : List Expr) (kws : List Keyword) (r : TA) : Prop := noStars es = true ∧ kwOk kws = true ∧ (∃ t tk, PA X es t ∧ PK X kws tk ∧ ∀ σ H Q, r σ H Q → t σ H fun vs H1 => Sln vs es ∧ tk σ H1 fun zs H2 => Sln zs kws ∧ Q (vs ++ zs) H2) ∧ (kws = [] → PA X es r)
theorem PAK.pa {X : Cx} {es : List Expr} {r : TA} (h : PAK X es [] r) : noStars es = true ∧ PA X es r := ⟨h.1, h.2.2.2 rfl⟩
section
variable {X : Cx} {pins : List (Addr × Obj)} {σ : L2.St} {H : Hp} {s : Shared} {es : List Expr} {kws : List Keyword} {r : TA} {f : Value} {first : List Value} {pos : Pos} {Q : Value → Shared → Prop} {RQ : List V → Hp → Prop}
theorem callW (I : Inv X pins σ H s) (hk : PySem.W.keepIn X.K f = true) (ha : PAK X es kws r) (h : r σ H RQ)
    (hR : ∀ (us ws : List Value) (vs : List V) (H2 : Hp) (s2 : Shared), Inv X pins σ H2 s2 → Vals vs (us ++ ws) → us.length = es.length → ws.length = kws.length → RQ vs H2 → wpAny (model X.prog X.w) X.A (call f (first ++ us) ((kwNames kws).zip ws)) Q X.xe s2) :
    wpAny (model X.prog X.w) X.A (callWith pos f first (backTo pos (starEach es X.env)) (backToKw pos (keywordEach kws X.env))) Q X.xe s := by
  obtain ⟨h1, h2, ⟨t, tk, pa, pk, q⟩, _⟩ := ha
  refine PySem.W.callWith_of (P := fun h => X.K.In h) (by rw [star_none pos X.env es h1, kw_none pos X.env kws h2]; rfl) (PySem.W.keeps_K hk) ?_
  have main : wpAny (model X.prog X.w) X.A (spliced (backTo pos (starEach es X.env))) (fun us s₁ => wpAny (model X.prog X.w) X.A (evalAll ((backToKw pos (keywordEach kws X.env)).map (·.2))) (fun ws s₂ =>
      X.K.In s₂.heap ∧ wpAny (model X.prog X.w) X.A (call f (first ++ us) (((backToKw pos (keywordEach kws X.env)).filterMap (·.1)).zip ws)) Q X.xe s₂) X.xe s₁) X.xe s := by
    refine thn (pa.run pos pins s σ H _ I (q σ H RQ h)) fun us s1 ⟨vs, H1, I1, rv, l, q1⟩ => ?_
    refine thn (pk.run pos pins s1 σ H1 _ I1 q1) fun ws s2 ⟨zs, H2, I2, rz, lz, q2⟩ => ⟨I2.kIn, ?_⟩
    rw [kw_names]
    exact hR us ws _ H2 s2 I2 (rv.append rz) (by rw [← rv.length, l.len]) (by rw [← rz.length, lz.len]) q2
  cases es with
  | nil =>
    unfold evalArgs
    show wpAny _ _ (spliced [] >>= _) _ _ s
    refine wpAny_bind (wpAny_mono main (fun vs s₁ h₁ => ?_) fun _ _ x => x)
    refine wpAny_holding ?_
    simp only [kw_all pos X.env kws h2, if_true]
    refine wpAny_bind (wpAny_mono h₁ (fun ks s₂ h₂ => ?_) fun _ _ x => x)
    exact wpAny_bind (wpAny_pure (wpAny_pure h₂))
  | cons e rest =>
    have he := star_cons (env := X.env) (es := rest) (Bool.and_eq_true_iff.mp (show (notStar e && noStars rest) = true from h1)).1
    rw [he] at main ⊢
    exact PySem.evalArgs_kw (kw_all pos X.env kws h2) main
end
section
variable {W : Wd} {X : Cx} {wx : WX} {pins : List (Addr × Obj)} {σ : L2.St} {H : Hp} {s : Shared} {k : Nat} {f : Addr} {kw : List (Nat × List Str)} {sp : Sp} {us ws : List Value} {ks : List Str} {vs : List V} {Q : VK}
theorem run_fnQ0 {P' : Result → Shared → Prop} (F : FnQ X.prog X.w X.K X.mg X.base k f kw sp) {A : Around} (hr : Room k A) (e0 : Env0 X.prog X.w X.K X.mg X.base A X.stack s H) (tk : Takes X wx) (I : Inv X pins σ H s) (r : Vals vs (us ++ ws)) (l : ws.length = ks.length) (c : ks = [] ∨ (us.length, ks) ∈ kw)
    (h : sp vs H Q (fun cls d H' => wx cls d σ H')) (k1 : ∀ u s', EP X pins σ Q u s' → P' (.ok (.ret u)) s') (k2 : ∀ e s', X.xe e s' → P' (.error e) s') : codeAny (model X.prog X.w) A (.call (.ref f) ⟨us, ks.zip ws⟩) P' s := by
  refine codeAny_mono (F A X.stack s H us ws ks vs Q _ hr e0 r l c h) fun r s' hq => ?_
  cases r with
  | error e => exact k2 e s' (tk e s' (XE.of_call I (fun _ _ _ h => h) hq))
  | ok fl =>
    cases fl with
    | ret u => exact k1 u s' (I.after hq)
    | next => exact False.elim hq
    | brk => exact False.elim hq
    | cont => exact False.elim hq
theorem run_fnQ (F : FnQ X.prog X.w X.K X.mg X.base k f kw sp) (hr : Room k X.A) (tk : Takes X wx) (I : Inv X pins σ H s) (r : Vals vs (us ++ ws)) (l : ws.length = ks.length) (c : ks = [] ∨ (us.length, ks) ∈ kw)
    (h : sp vs H Q (fun cls d H' => wx cls d σ H')) : wpAny (model X.prog X.w) X.A (call (.ref f) us (ks.zip ws)) (EP X pins σ Q) X.xe s := by
  refine wpAny_call (run_fnQ0 F hr I.env0 tk I r l c h (fun _ _ q => q) fun _ _ q => q)
theorem run_makeQ {C : Addr} (M : Mk X.K C f) (F : FnQ X.prog X.w X.K X.mg X.base k f kw sp) (hr : Room (k + 1) X.A) (tk : Takes X wx) (I : Inv X pins σ H s) (r : Vals vs (us ++ ws)) (l : ws.length = ks.length) (c : ks = [] ∨ (us.length + 1, ks) ∈ kw)
    (h : ∀ x dx, H x = none → H dx = none → dx ≠ x → sp (.ref x :: vs) (upd (upd H dx (.own x)) x (.ins C dx [])) (fun v H2 => v = .non ∧ Q (.ref x) H2) (fun cls d H' => wx cls d σ H')) :
    wpAny (model X.prog X.w) X.A (call (.ref C) us (ks.zip ws)) (EP X pins σ Q) X.xe s := by
  have hq := h (s.heap.objs.size + 1) s.heap.objs.size (I.hok.fresh (Nat.le_succ _)) (I.hok.fresh (Nat.le_refl _)) (Nat.ne_of_lt (Nat.lt_succ_self _))
  have I2 := Inv.made (C := C) I
  refine wpAny_call (make_map (f := f) I.kIn M.makes M.init (beq_iff_eq.mp M.fn) (run_fnQ0 (us := Value.ref (s.heap.objs.size + 1) :: us) (ws := ws) F (hr.make C us (ks.zip ws)) (I2.env0.make C us (ks.zip ws)) tk I2 (show Vals (V.ref (s.heap.objs.size + 1) :: vs) (Value.ref (s.heap.objs.size + 1) :: (us ++ ws)) from .cons rfl r) l c hq (fun u s' q => ?_) fun _ _ q => q))
  obtain ⟨v, H', I3, rv, ev, q3⟩ := q
  subst ev
  exact ⟨rv, ⟨V.ref (s.heap.objs.size + 1), H', I3, rfl, q3⟩⟩
end
/-- what a piece of code runs in -/
structure Ct (W : Wd) (X : Cx) (ev : Ev) (k : Nat) (wx : WX) : Prop where
  kf : Kf W X.K X.w X.mg
  g : ev.G = W.G
  fns : Fns W X.prog X.w X.K X.mg X.base ev.run (k + 1)
  fnsI : Fns W X.prog X.w X.K X.mg X.base ev.runI k
  room : Room (k + 1) X.A
  calm : X.calm = true
  nd : X.N.Nodup
  tk : Takes X wx
section
variable {W : Wd} {X : Cx} {wx : WX} {ev : Ev} {k : Nat} {es : List Expr} {kws : List Keyword} {c : Es} {x : Str} {p pos apos : Pos} {Q : VK} {B : Base} {S S' : Syn} {fs fs' : FS} {σ : L2.St} {H : Hp}
/-- a call's end by values -/
theorem post_call {f : Nat} {fd : Fd} {args : List PV} {vs : List V} (g : W.G.fns f = some fd) (hk : fd.kind = none) (hf : fd.fresh = false) {cal : Cal} (s : Sim W X.K X.w B S fs σ H) (r : Reps W X.K X.w S H vs args)
    (h : Pst W X wx (rV W X) σ B S H Q ((cal f (dft W.G f args) fs.hp).up fs)) : spF W X.K X.w cal f fd vs H Q (fun cls d H' => wx cls d σ H') := by
  unfold spF
  rw [hk]
  refine ⟨S, fs.hp, args, s.hi, r, ?_⟩
  rw [hf]
  show PostC W X.K X.w S H Q _ (cal f (dft W.G f args) fs.hp)
  cases e : cal f (dft W.G f args) fs.hp with
  | ok x h' =>
    rw [e] at h
    intro v H' S' hi rl rp
    obtain ⟨s', e'⟩ := s.call rl hi
    exact h v H' S' s' e' rp
  | ex c vs h' =>
    rw [e] at h
    intro cls d H' S' hi rl rp
    obtain ⟨s', e'⟩ := s.call rl hi
    exact h cls d H' S' s' e' rp
  | no =>
    rw [e] at h
    exact h.elim
/-- .. of a fresh-returning def, as a frozen value -/
theorem Sim.frL {p : Addr} {vs : List V} {xs : List PV} (s : Sim W X.K X.w B S fs σ H) (l : Loose B S fs σ p) (h : H p = some (.lst vs)) (r : Reps W X.K X.w S H vs xs) : Sim W X.K X.w B (S.addF p) fs σ H ∧ Ext S H (S.addF p) H ∧ Rep W X.K X.w (S.addF p) H (.ref p) (.lst xs) := by
  obtain ⟨s1, e1⟩ := s.frz l (by rw [h]; intro z; cases z)
  exact ⟨s1, e1, .lst (.inr rfl) (.inl h) (r.ext e1)⟩
theorem zipD_ks : ∀ {ks : List Key} {kvs : List (Key × PV)}, kvs.map (·.1) = ks → zipD ks (kvs.map (·.2)) = kvs
  | _, [], e => by subst e; rfl
  | _, (k, v) :: r, e => by subst e; exact congrArg ((k, v) :: ·) (zipD_ks rfl)
theorem Sim.frD {p : Addr} {us : List (Key × V)} {kvs : List (Key × PV)} (s : Sim W X.K X.w B S fs σ H) (l : Loose B S fs σ p) (h : H p = some (.dK us)) (n : us.map (·.1) = kvs.map (·.1)) (r : Reps W X.K X.w S H (us.map (·.2)) (kvs.map (·.2))) :
    Sim W X.K X.w B (S.addF p) fs σ H ∧ Ext S H (S.addF p) H ∧ Rep W X.K X.w (S.addF p) H (.ref p) (.dic (kvs.map (·.1)) (kvs.map (·.2))) := by
  obtain ⟨s1, e1⟩ := s.frz l (by rw [h]; intro z; cases z)
  exact ⟨s1, e1, .dic (.inr rfl) h n (r.ext e1)⟩
/-- p was free ahead of a call: it is of no use yet -/
theorem Sim.loose_call {p : Addr} (s : Sim W X.K X.w B S fs σ H) (n : H p = none) (l1 : ¬ S'.F p) (l2 : p ∉ S'.rh) {h' : Hb} : Loose B S' { fs with hp := h' } σ p :=
  ⟨⟨l1, l2, s.base n⟩, fun i q e ow => (s.loose_new n).2 i q e ow⟩
end
end U
namespace U
open PySem PySem.Spec L2 PyProof.Rows
theorem plainFn_of {G : Tab} {f : Nat} (h : plainFn G f = true) : ∃ fd, G.fns f = some fd ∧ fd.kind = none ∧ fd.fresh = false := by
  unfold plainFn at h
  split at h
  · rename_i fd e
    split at h
    · exact ⟨fd, e, by assumption, by assumption⟩
    · cases h
  · cases h
theorem freshFn_of {G : Tab} {f : Nat} (h : freshFn G f = true) : ∃ fd, G.fns f = some fd ∧ fd.kind = none ∧ fd.fresh = true := by
  unfold freshFn at h
  split at h
  · rename_i fd e
    split at h
    · exact ⟨fd, e, by assumption, by assumption⟩
    · cases h
  · cases h
theorem initFn_of {G : Tab} {f c : Nat} (h : initFn G f c = true) : ∃ fd, G.fns f = some fd ∧ fd.kind = some c := by
  unfold initFn at h
  split at h
  · rename_i fd e
    split at h
    · rename_i d e2
      exact ⟨fd, e, by rw [e2, Nat.eq_of_beq_eq_true h]⟩
    · cases h
  · cases h
theorem meth_ofK {o : Expr} {m : Str} {apos pos : Pos} {args : List Expr} {kws : List Keyword} {env : Env} (hb : notCall0 o = true) (hs : noStars args = true) (hk : kwOk kws = true) (hl : (apos.endLine == pos.line) = true) (hn : args.length + kws.length < 29) :
    eval (.Call (.Attribute o m apos) args kws pos) env = (do
      let ov ← eval o env
      standAt apos.atName
      let (f, first) ← holding [ov] (getMethod ov m (do return (← importBound o env).getD true))
      callWith pos f first (backTo pos (starEach args env)) (backToKw pos (keywordEach kws env))) := by
  have hf : methodCallForm (args.length + kws.length) (backTo pos (starEach args env)) (backToKw pos (keywordEach kws env)) = true := by
    unfold methodCallForm
    rw [star_all pos env args hs, kw_all pos env kws hk]
    show (true && true && decide (args.length + kws.length + _ < 30)) = true
    rw [decide_eq_true (by split <;> omega)]
    rfl
  show (do
    let ov ← attributeBase o m env (eval o env)
    standAt apos.atName
    methodCall o m apos pos env ov (args.length + kws.length) (backTo pos (starEach args env)) (backToKw pos (keywordEach kws env))) = _
  rw [base_of hb]
  unfold methodCall
  rw [hf]
  have hp : methodCallPos true o env apos pos = pure pos := by
    unfold methodCallPos
    rw [hl]
    rfl
  rw [hp]
  rfl
section
variable {W : Wd} {X : Cx} {wx : WX} {ev : Ev} {k : Nat} {es : List Expr} {kws : List Keyword} {cs : Es} {x : Str} {p pos apos : Pos} {Q : VK} {B : Base} {S S' : Syn} {fs fs' : FS} {σ : L2.St} {H : Hp} {f : Nat} {vs : List V} {args : List PV}
/-- the promise of a def whose answer is a value -/
theorem go_plain (c : Ct W X ev k wx) {cal : Cal} (s : Sim W X.K X.w B S fs σ H) (r : Reps W X.K X.w S H vs args) (h : Pst W X wx (rV W X) σ B S H Q (match plainFn ev.G f with
    | true => (cal f (dft ev.G f args) fs.hp).up fs
    | false => .no)) : ∃ fd, W.G.fns f = some fd ∧ spF W X.K X.w cal f fd vs H Q (fun cls d H' => wx cls d σ H') := by
  rw [c.g] at h
  cases e : plainFn W.G f with
  | false => rw [e] at h; exact h.elim
  | true =>
    rw [e] at h
    obtain ⟨fd, g, h1, h2⟩ := plainFn_of e
    exact ⟨fd, g, post_call g h1 h2 s r h⟩
/-- .. of one that answers with a new list -/
theorem go_fresh (c : Ct W X ev k wx) {α : Type} {RR : RRel V α} {gl : R FS PV → R FS α} (s : Sim W X.K X.w B S fs σ H) (r : Reps W X.K X.w S H vs args) (h : Pst W X wx RR σ B S H Q (gl (fcall ev f args fs)))
    (hn : gl .no = .no) (hf : ∀ y fs, isFr y = false → gl (.ok y fs) = .no) (hx : ∀ c vs fs, gl (.ex c vs fs) = .ex c vs fs)
    (ho : ∀ y fs' p H' S', isFr y = true → Pst W X wx RR σ B S H Q (gl (.ok y fs')) → Sim W X.K X.w B S' fs' σ H' → Ext S H S' H' → Loose B S' fs' σ p → FrR W X.K X.w S' H' p y → Q (.ref p) H') : ∃ fd, W.G.fns f = some fd ∧ spF W X.K X.w ev.run f fd vs H Q (fun cls d H' => wx cls d σ H') := by
  unfold fcall at h
  rw [c.g] at h
  cases e : freshFn W.G f with
  | false => rw [e] at h; simp only [hn] at h; exact h.elim
  | true =>
    rw [e] at h
    obtain ⟨fd, g, h1, h2⟩ := freshFn_of e
    refine ⟨fd, g, ?_⟩
    unfold spF
    rw [h1]
    refine ⟨S, fs.hp, args, s.hi, r, ?_⟩
    rw [h2]
    show PostF W X.K X.w S H Q _ (ev.run f (dft W.G f args) fs.hp)
    cases e2 : ev.run f (dft W.G f args) fs.hp with
    | ok y h' =>
      simp only [e2] at h
      have h' : Pst W X wx RR σ B S H Q (gl (.ok y { fs with hp := h' })) := h
      cases fr : isFr y with
      | false =>
        rw [hf _ _ fr] at h'
        exact h'.elim
      | true =>
        refine ⟨fr, fun p H' S' hi rl n l1 l2 fr' => ?_⟩
        obtain ⟨s', e'⟩ := s.call rl hi
        exact ho y _ p H' S' fr h' s' e' (s.loose_call n l1 l2) fr'
    | ex c vs h' =>
      simp only [e2] at h
      have h' : Pst W X wx RR σ B S H Q (gl (.ex c vs { fs with hp := h' })) := h
      rw [hx] at h'
      intro cls d H' S' hi rl rp
      obtain ⟨s', e'⟩ := s.call rl hi
      exact h' cls d H' S' s' e' rp
    | no =>
      simp only [e2] at h
      have h' : Pst W X wx RR σ B S H Q (gl .no) := h
      rw [hn] at h'
      exact h'.elim
theorem kw_nil {ks : List Str} {n : Nat} {l : List (Nat × List Str)} (h : kws = [] ∨ (n, kwNames kws) ∈ l) : kwNames kws = [] ∨ (n, kwNames kws) ∈ l := h.elim (fun e => .inl (by rw [e]; rfl)) .inr
/-- f(..), f a def of the module, by any promise that the arguments' values give -/
theorem x_callQ {r : TA} {tq : TE} (c : Ct W X ev k wx) (hg : Gl X (W.fat f).1) (hm : (W.fat f).2 = none) (hd : ((W.fat f).1 == ("__debug__" : Str)) = false) (ha : PAK X es kws r) (hkw : kws = [] ∨ (es.length, kwNames kws) ∈ W.kw f)
    (hq : ∀ σ H Q, tq σ H Q → r σ H fun vs H1 => ∃ fd, W.G.fns f = some fd ∧ spF W X.K X.w ev.run f fd vs H1 Q (fun cls d H' => wx cls d σ H')) (hfd : ∃ fd, W.G.fns f = some fd) : PE X (.Call (.Name (W.fat f).1 p) es kws pos) tq := by
  refine ⟨fun pins s σ H Q I h => ?_⟩
  obtain ⟨fd, g⟩ := hfd
  refine wpAny_Call_Name_kw (ld_glob I hg (c.kf.gfn f fd g hm) ?_ hd)
  refine callW I (c.kf.kfn f fd g) ha (hq σ H Q h) fun us ws vs H2 s2 I2 rv l1 l2 ⟨fd', g', sp⟩ => ?_
  exact run_fnQ (c.fns f fd' g') c.room c.tk I2 rv (by rw [l2, kw_len kws ha.2.1]) (by rw [List.nil_append, l1]; exact kw_nil (ks := []) hkw) sp
theorem x_call (c : Ct W X ev k wx) (hg : Gl X (W.fat f).1) (hm : (W.fat f).2 = none) (hd : ((W.fat f).1 == ("__debug__" : Str)) = false) (ha : PAK X es kws (rd W X wx (rVs W X) (evEs ev cs))) (hkw : kws = [] ∨ (es.length, kwNames kws) ∈ W.kw f)
    (hfd : ∃ fd, W.G.fns f = some fd) : PE X (.Call (.Name (W.fat f).1 p) es kws pos) (rd W X wx (rV W X) (evE ev (.call f cs))) :=
  x_callQ c hg hm hd ha hkw (fun σ H Q ⟨B, S, fs, s, h⟩ => Pst.go s (show Pst W X wx (rV W X) σ B S H Q ((evEs ev cs fs).bind fun vs fs => pcall ev f vs fs) from h) fun vs H1 S1 fs1 a s1 e1 r1 h1 => go_plain c s1 r1 h1) hfd
/-- a new list by a call -/
theorem outL (S0 : Syn) (H0 : Hp) {y : PV} {p : Addr} {H' : Hp} (h : Pst W X wx (rL W X) σ B S0 H0 Q (getL (.ok y fs'))) (s' : Sim W X.K X.w B S' fs' σ H') (e' : Ext S0 H0 S' H') (l : Loose B S' fs' σ p) (fr : FrR W X.K X.w S' H' p y) : Q (.ref p) H' := by
  cases y with
  | lst xs =>
    obtain ⟨vs, h1, r1⟩ := fr
    exact h _ _ _ s' e' ⟨p, vs, rfl, l, h1, r1⟩
  | _ => exact h.elim
theorem outD (S0 : Syn) (H0 : Hp) {y : PV} {p : Addr} {H' : Hp} (h : Pst W X wx (rD W X) σ B S0 H0 Q (getD (.ok y fs'))) (s' : Sim W X.K X.w B S' fs' σ H') (e' : Ext S0 H0 S' H') (l : Loose B S' fs' σ p) (fr : FrR W X.K X.w S' H' p y) : Q (.ref p) H' := by
  cases y with
  | dic ks xs =>
    obtain ⟨kvs, h1, h2, r1⟩ := fr
    obtain ⟨e1, e2⟩ := zipD_map r1
    rw [h2] at e1 e2
    exact h _ _ _ s' e' ⟨p, kvs, rfl, l, h1, by rw [e1, h2], by rw [e2]; exact r1⟩
  | _ => exact h.elim
theorem x_callL (c : Ct W X ev k wx) (hg : Gl X (W.fat f).1) (hm : (W.fat f).2 = none) (hd : ((W.fat f).1 == ("__debug__" : Str)) = false) (ha : PAK X es kws (rd W X wx (rVs W X) (evEs ev cs))) (hkw : kws = [] ∨ (es.length, kwNames kws) ∈ W.kw f)
    (hfd : ∃ fd, W.G.fns f = some fd) : PE X (.Call (.Name (W.fat f).1 p) es kws pos) (rd W X wx (rL W X) (evL ev (.call f cs))) :=
  x_callQ c hg hm hd ha hkw (fun σ H Q ⟨B, S, fs, s, h⟩ => Pst.go s (show Pst W X wx (rL W X) σ B S H Q ((evEs ev cs fs).bind fun vs fs => getL (fcall ev f vs fs)) from h) fun vs H1 S1 fs1 a s1 e1 r1 h1 =>
    go_fresh c (gl := getL) s1 r1 h1 rfl (fun y _ z => by cases y <;> first | rfl | cases z) (fun _ _ _ => rfl) fun y fs' p H' S' _ h' s' e' l fr => outL S1 H1 h' s' e' l fr) hfd
theorem x_callD (c : Ct W X ev k wx) (hg : Gl X (W.fat f).1) (hm : (W.fat f).2 = none) (hd : ((W.fat f).1 == ("__debug__" : Str)) = false) (ha : PAK X es kws (rd W X wx (rVs W X) (evEs ev cs))) (hkw : kws = [] ∨ (es.length, kwNames kws) ∈ W.kw f)
    (hfd : ∃ fd, W.G.fns f = some fd) : PE X (.Call (.Name (W.fat f).1 p) es kws pos) (rd W X wx (rD W X) (evD ev (.call f cs))) :=
  x_callQ c hg hm hd ha hkw (fun σ H Q ⟨B, S, fs, s, h⟩ => Pst.go s (show Pst W X wx (rD W X) σ B S H Q ((evEs ev cs fs).bind fun vs fs => getD (fcall ev f vs fs)) from h) fun vs H1 S1 fs1 a s1 e1 r1 h1 =>
    go_fresh c (gl := getD) s1 r1 h1 rfl (fun y _ z => by cases y <;> first | rfl | cases z) (fun _ _ _ => rfl) fun y fs' p H' S' _ h' s' e' l fr => outD S1 H1 h' s' e' l fr) hfd
/-- what a receiver is -/
theorem clOf_rep {h : Hb} {v : V} {y : PV} {c : Nat} (i : HInv W X.K X.w S h H) (r : Rep W X.K X.w S H v y) (e : clOf h y = some c) : ∃ a dx fl cl, v = .ref a ∧ H a = some (.ins (ca W X.K c) dx fl) ∧ W.G.cls c = some cl ∧ ∀ q ∈ fl, ∃ k ∈ cl.flds, q.1 = W.an k := by
  cases y with
  | ins d xs =>
    cases e
    cases r with
    | sc r => cases r
    | @ins p dx fl _ cl _ f h1 g n r =>
      refine ⟨p, dx, fl, cl, rfl, h1, g, fun q m => ?_⟩
      have : q.1 ∈ fl.map (·.1) := List.mem_map_of_mem m
      rw [n] at this
      obtain ⟨k, k1, k2⟩ := List.mem_map.mp this
      exact ⟨k, k1, k2.symm⟩
  | obj a =>
    obtain ⟨p, rfl, hp⟩ := r.obj_inv
    obtain ⟨u, hu, ob⟩ := i.at hp
    unfold clOf at e
    simp only [hu] at e
    cases ob with
    | lst h r => cases e
    | dic h k r => cases e
    | @ins dx fl c' fl' h1 n l r =>
      cases e
      obtain ⟨cl, l1, l2⟩ := l
      refine ⟨p, dx, fl, cl, rfl, h1, l1, fun q m => ?_⟩
      have : q.1 ∈ fl.map (·.1) := List.mem_map_of_mem m
      rw [n] at this
      obtain ⟨z, z1, z2⟩ := List.mem_map.mp this
      exact ⟨z.1, l2 z z1, z2.symm⟩
  | _ => cases e
theorem look_none {α : Type} : ∀ {l : List (Str × α)} {x : Str}, (∀ q ∈ l, q.1 ≠ x) → l.lookup x = none
  | [], _, _ => rfl
  | (y, v) :: r, x, h => by
    rw [List.lookup_cons, show (x == y) = false from beq_eq_false_iff_ne.mpr fun e => h _ (List.mem_cons_self ..) e.symm]
    exact look_none fun q m => h q (List.mem_cons_of_mem _ m)
/-- o.m(..) -/
theorem x_methQ {o : Expr} {m : Nat} {ta : TE} {r : TA} {tq : TE} (c : Ct W X ev k wx) (ho : PE X o ta) (hb : notCall0 o = true) (hl : (apos.endLine == pos.line) = true) (hn : es.length + kws.length < 29) (ha : PAK X es kws r) (hkw : kws = [] ∨ (es.length, kwNames kws) ∈ W.kwm m)
    (hq : ∀ σ H Q, tq σ H Q → ta σ H fun x H1 => ∃ a cc dx fl cl f, x = .ref a ∧ H1 a = some (.ins (ca W X.K cc) dx fl) ∧ W.G.cls cc = some cl ∧ (∀ q ∈ fl, ∃ k ∈ cl.flds, q.1 = W.an k) ∧ W.G.meth cc m = some f ∧
      r σ H1 fun vs H2 => ∃ fd, W.G.fns f = some fd ∧ spF W X.K X.w ev.run f fd (x :: vs) H2 Q (fun cls d H' => wx cls d σ H')) : PE X (.Call (.Attribute o (W.mn m) apos) es kws pos) tq := by
  refine ⟨fun pins s σ H Q I h => ?_⟩
  refine PySem.W.methodCall_KW (pl := do return (← importBound o X.env).getD true) (thn (ho.run pins s σ H _ I (hq σ H Q h)) fun u s1 ⟨x, H1, I1, rx, a, cc, dx, fl, cl, f, ex, ea, gc, gl, gm, q⟩ => ?_) (meth_ofK hb ha.1 ha.2.1 hl hn)
  subst ex
  obtain rfl : u = Value.ref a := rx
  obtain ⟨x1, m1, nm⟩ := c.kf.meth cc cl m f gc gm
  refine getmeth_ok I1 ea (c.kf.cls cc cl gc x1) m1 (look_none fun q mq e => ?_) ?_
  · obtain ⟨z, z1, z2⟩ := gl q mq
    exact nm z z1 (z2.symm.trans e)
  refine callW (first := [.ref a]) I1 m1.kp ha q fun us ws vs H2 s2 I2 rv l1 l2 ⟨fd', g', sp⟩ => ?_
  exact run_fnQ (us := .ref a :: us) (vs := .ref a :: vs) (c.fns f fd' g') c.room c.tk I2 (show Vals (V.ref a :: vs) (Value.ref a :: (us ++ ws)) from .cons rfl rv) (by rw [l2, kw_len kws ha.2.1])
    (by rw [List.length_cons, l1]; exact kw_nil (ks := []) (hkw.imp id fun z => c.kf.kwm cc m f gm _ z)) sp
end
end U
namespace U
open PySem PySem.Spec L2 PyProof.Rows
section
variable {W : Wd} {X : Cx} {wx : WX} {ev : Ev} {k : Nat} {es : List Expr} {kws : List Keyword} {cs : Es} {x : Str} {p pos apos : Pos} {Q : VK} {B : Base} {S S' : Syn} {fs fs' : FS} {σ : L2.St} {H : Hp} {f : Nat} {vs : List V} {args : List PV} {o : Expr} {m : Nat} {a : E}
theorem x_methG {α : Type} {RR : RRel V α} {g : Nat → List PV → FS → R FS α} (c : Ct W X ev k wx) (ho : PE X o (rd W X wx (rV W X) (evE ev a))) (hb : notCall0 o = true) (hl : (apos.endLine == pos.line) = true) (hn : es.length + kws.length < 29)
    (ha : PAK X es kws (rd W X wx (rVs W X) (evEs ev cs))) (hkw : kws = [] ∨ (es.length, kwNames kws) ∈ W.kwm m)
    (hg : ∀ (B : Base) (S : Syn) (fs : FS) (σ : L2.St) (H : Hp) (Q : VK) (args : List PV) (vs : List V) (f : Nat), Sim W X.K X.w B S fs σ H → Reps W X.K X.w S H vs args → Pst W X wx RR σ B S H Q (g f args fs) →
      ∃ fd, W.G.fns f = some fd ∧ spF W X.K X.w ev.run f fd vs H Q (fun cls d H' => wx cls d σ H')) :
    PE X (.Call (.Attribute o (W.mn m) apos) es kws pos) (rd W X wx RR fun fs => (evE ev a fs).bind fun x fs => match mfind ev.G fs.hp x m with
      | some f => (evEs ev cs fs).bind fun vs fs => g f (x :: vs) fs
      | none => .no) :=
  x_methQ c ho hb hl hn ha hkw fun σ H Q ⟨B, S, fs, s, h⟩ => Pst.go s h fun v H1 S1 fs1 y s1 e1 r1 h1 => by
    cases em : mfind ev.G fs1.hp y m with
    | none => simp only [em] at h1; exact h1.elim
    | some f =>
      simp only [em] at h1
      unfold mfind at em
      split at em
      · rename_i cc ec
        obtain ⟨a', dx, fl, cl, ev', ea, gc, gl⟩ := clOf_rep s1.hi r1 ec
        rw [c.g] at em
        refine ⟨a', cc, dx, fl, cl, f, ev', ea, gc, gl, em, Pst.go s1 h1 fun vs H2 S2 fs2 args s2 e2 r2 h2 => ?_⟩
        exact hg B S2 fs2 σ H2 Q (y :: args) (v :: vs) f s2 (.cons (Rep.ext e2 r1) r2) h2
      · cases em
theorem x_meth (c : Ct W X ev k wx) (ho : PE X o (rd W X wx (rV W X) (evE ev a))) (hb : notCall0 o = true) (hl : (apos.endLine == pos.line) = true) (hn : es.length + kws.length < 29)
    (ha : PAK X es kws (rd W X wx (rVs W X) (evEs ev cs))) (hkw : kws = [] ∨ (es.length, kwNames kws) ∈ W.kwm m) : PE X (.Call (.Attribute o (W.mn m) apos) es kws pos) (rd W X wx (rV W X) (evE ev (.meth a m cs))) :=
  x_methG (g := fun f args fs => pcall ev f args fs) c ho hb hl hn ha hkw fun B S fs σ H Q args vs f s r h => go_plain c s r h
theorem x_methL (c : Ct W X ev k wx) (ho : PE X o (rd W X wx (rV W X) (evE ev a))) (hb : notCall0 o = true) (hl : (apos.endLine == pos.line) = true) (hn : es.length + kws.length < 29)
    (ha : PAK X es kws (rd W X wx (rVs W X) (evEs ev cs))) (hkw : kws = [] ∨ (es.length, kwNames kws) ∈ W.kwm m) : PE X (.Call (.Attribute o (W.mn m) apos) es kws pos) (rd W X wx (rL W X) (evL ev (.meth a m cs))) :=
  x_methG (g := fun f args fs => getL (fcall ev f args fs)) c ho hb hl hn ha hkw fun B S fs σ H Q args vs f s r h => go_fresh c (gl := getL) s r h rfl (fun y _ z => by cases y <;> first | rfl | cases z) (fun _ _ _ => rfl) fun y fs' p H' S' _ h' s' e' l fr => outL S H h' s' e' l fr
theorem x_methD (c : Ct W X ev k wx) (ho : PE X o (rd W X wx (rV W X) (evE ev a))) (hb : notCall0 o = true) (hl : (apos.endLine == pos.line) = true) (hn : es.length + kws.length < 29)
    (ha : PAK X es kws (rd W X wx (rVs W X) (evEs ev cs))) (hkw : kws = [] ∨ (es.length, kwNames kws) ∈ W.kwm m) : PE X (.Call (.Attribute o (W.mn m) apos) es kws pos) (rd W X wx (rD W X) (evD ev (.meth a m cs))) :=
  x_methG (g := fun f args fs => getD (fcall ev f args fs)) c ho hb hl hn ha hkw fun B S fs σ H Q args vs f s r h => go_fresh c (gl := getD) s r h rfl (fun y _ z => by cases y <;> first | rfl | cases z) (fun _ _ _ => rfl) fun y fs' p H' S' _ h' s' e' l fr => outD S H h' s' e' l fr
/-- f(..), f a value -/
theorem x_callv {i : Nat} (c : Ct W X ev k wx) (hN : X.N[i]? = some x) (hv : Vis X.env.scope x) (hd : (x == ("__debug__" : Str)) = false) (hcd : (x == ("__classdict__" : Str)) = false) (ho : PE X (.Name x p) (rd W X wx (rV W X) (evE ev a))) (ha : PAK X es [] (rd W X wx (rVs W X) (evEs ev cs))) :
    PE X (.Call (.Name x p) es [] pos) (rd W X wx (rV W X) (evE ev (.callv a cs))) := by
  refine ⟨fun pins s σ H Q I ⟨B, S, fs, s0, h⟩ => ?_⟩
  have h : Pst W X wx (rV W X) σ B S H Q ((evE ev a fs).bind fun x fs => match x with
    | .fn f => match plainFn ev.G f with
      | true => (evEs ev cs fs).bind fun vs fs => pcall ev f vs fs
      | false => .no
    | _ => .no) := h
  refine wpAny_Call_Name_kw (thn (ho.run pins s σ H (fun v H1 => ∃ f fd, v = .ref (fa W X.K f) ∧ W.G.fns f = some fd ∧ rd W X wx (rVs W X) (evEs ev cs) σ H1 fun vs H2 => ∃ fd, W.G.fns f = some fd ∧ spF W X.K X.w ev.run f fd vs H2 Q (fun cls d H' => wx cls d σ H')) I
    (Pst.go s0 h fun v H1 S1 fs1 y s1 e1 r1 h1 => ?_)) fun u s1 ⟨v, H1, I1, ru, f, fd, e, g, h1⟩ => ?_)
  · cases y with
    | fn f =>
      have rr : Rep W X.K X.w S1 H1 v (.fn f) := r1
      rw [rr.fn_inv]
      cases ep : plainFn ev.G f with
      | false => simp only [ep] at h1; exact h1.elim
      | true =>
        simp only [ep] at h1
        have ep' := ep
        rw [c.g] at ep'
        obtain ⟨fd, g, _, _⟩ := plainFn_of ep'
        exact ⟨f, fd, rfl, g, Pst.go s1 h1 fun vs H2 S2 fs2 args s2 e2 r2 h2 => go_plain c s2 r2 h2⟩
    | _ => exact h1.elim
  · subst e
    obtain rfl : u = Value.ref (fa W X.K f) := ru
    refine callW I1 (c.kf.kfn f fd g) ha h1 fun us ws vs H2 s2 I2 rv l1 l2 ⟨fd', g', sp⟩ => ?_
    exact run_fnQ (c.fns f fd' g') c.room c.tk I2 rv (by rw [l2]; rfl) (.inl rfl) sp
theorem upd_del {p : Addr} {u : HO} (h : H p = none) : delH (upd H p u) p = H := by
  funext b
  unfold delH
  by_cases e : b = p
  · rw [if_pos e, e, h]
  · rw [if_neg e, upd_ne e]
/-- a new instance of a frozen class -/
theorem go_mkF {cc : Nat} {cl : Cl} (c : Ct W X ev k wx) (gc : W.G.cls cc = some cl) (ex : cl.exc = false) (fr : cl.froz = true) {fi : Nat} (gi : cl.init = some fi) (s : Sim W X.K X.w B S fs σ H) (r : Reps W X.K X.w S H vs args) (h : Pst W X wx (rV W X) σ B S H Q (mkF ev cc args fs)) :
    ∃ fd, W.G.fns fi = some fd ∧ ∀ q dx, H q = none → H dx = none → dx ≠ q → spF W X.K X.w ev.runI fi fd (.ref q :: vs) (upd (upd H dx (.own q)) q (.ins (ca W X.K cc) dx [])) (fun v H2 => v = .non ∧ Q (.ref q) H2) (fun cls d H' => wx cls d σ H') := by
  unfold mkF at h
  rw [c.g, gc] at h
  simp only [ex, fr, gi, Bool.false_eq_true, if_false] at h
  cases e : initFn W.G fi cc with
  | false => rw [e] at h; exact h.elim
  | true =>
    rw [e] at h
    obtain ⟨fd, g, h1⟩ := initFn_of e
    refine ⟨fd, g, fun q dx hq hdx ne => ?_⟩
    obtain ⟨sx, ex', _⟩ := s.lay (o := .own q) hdx
    have hq' : upd H dx (.own q) q = none := by rw [upd_ne (Ne.symm ne)]; exact hq
    have lq := sx.loose_new hq'
    unfold spF
    rw [h1]
    refine ⟨S, fs.hp, args, q, dx, vs, rfl, upd_same, lq.1.1, lq.1.2.1, ?_, ?_, ?_⟩
    · rw [upd_del hq']; exact sx.hi
    · rw [upd_del hq']; exact r.ext ex'
    · show PostI W X.K X.w S (upd (upd H dx (.own q)) q _) q _ _ (ev.runI fi (dft W.G fi args) fs.hp)
      cases e2 : ev.runI fi (dft W.G fi args) fs.hp with
      | ok y h' =>
        simp only [e2] at h
        cases y with
        | ins c2 xs =>
          intro H' S' dx' fl cl' hi rl l1 l2 hp' g2 n2 r2
          rw [upd_del hq'] at rl
          obtain ⟨s', e'⟩ := sx.call rl hi
          have l : Loose B S' { fs with hp := h' } σ q := sx.loose_call hq' l1 l2
          obtain ⟨s2, e3⟩ := s'.frz l (by rw [hp']; intro z; cases z)
          exact ⟨rfl, h _ _ _ s2 ((ex'.trans e').trans e3) (.ins (.inr rfl) hp' g2 n2 (r2.ext e3))⟩
        | _ => exact h.elim
      | ex c vs h' =>
        simp only [e2] at h
        intro cls d H' S' hi rl rp
        rw [upd_del hq'] at rl
        obtain ⟨s', e'⟩ := sx.call rl hi
        exact h cls d H' S' s' (ex'.trans e') rp
      | no =>
        simp only [e2] at h
        exact h.elim
/-- a new instance of a class whose instances change -/
theorem go_mkH {cc : Nat} (c : Ct W X ev k wx) (s : Sim W X.K X.w B S fs σ H) (r : Reps W X.K X.w S H vs args) (h : Pst W X wx (rV W X) σ B S H Q (mkH ev cc args fs)) :
    ∃ cl fi fd, W.G.cls cc = some cl ∧ cl.exc = false ∧ cl.init = some fi ∧ W.G.fns fi = some fd ∧ ∀ q dx, H q = none → H dx = none → dx ≠ q → spF W X.K X.w ev.runI fi fd (.ref q :: vs) (upd (upd H dx (.own q)) q (.ins (ca W X.K cc) dx [])) (fun v H2 => v = .non ∧ Q (.ref q) H2) (fun cls d H' => wx cls d σ H') := by
  unfold mkH at h
  rw [c.g] at h
  cases gc : W.G.cls cc with
  | none => rw [gc] at h; exact h.elim
  | some cl =>
    rw [gc] at h
    cases ex : cl.exc with
    | true => simp only [ex, if_true] at h; exact h.elim
    | false =>
      simp only [ex, Bool.false_eq_true, if_false] at h
      cases fr : cl.froz with
      | true => simp only [fr] at h; exact h.elim
      | false =>
        cases gi : cl.init with
        | none => simp only [fr, gi] at h; exact h.elim
        | some fi =>
          simp only [fr, gi] at h
          cases e : plainFn W.G fi with
          | false => rw [e] at h; exact h.elim
          | true =>
            rw [e] at h
            obtain ⟨fd, g, h1, h2⟩ := plainFn_of e
            refine ⟨cl, fi, fd, rfl, ex, gi, g, fun q dx hq hdx ne => ?_⟩
            obtain ⟨sx, ex', _⟩ := s.lay (o := .own q) hdx
            have hq' : upd H dx (.own q) q = none := by rw [upd_ne (Ne.symm ne)]; exact hq
            obtain ⟨sy, ey, ly⟩ := sx.lay (o := .ins (ca W X.K cc) dx []) hq'
            obtain ⟨sz, ez, rz⟩ := sy.heap (u := .ins cc []) ly (.ins upd_same rfl ⟨cl, gc, fun _ m => by cases m⟩ .nil)
            unfold spF
            rw [h1]
            refine ⟨S.addR q, fs.hp ++ [.ins cc []], .obj fs.hp.length :: args, sz.hi, .cons (.obj rz) (((r.ext ex').ext ey).ext ez), ?_⟩
            rw [h2]
            show PostC W X.K X.w (S.addR q) _ _ _ (ev.runI fi (dft W.G fi (.obj fs.hp.length :: args)) (fs.hp ++ [.ins cc []]))
            cases e2 : ev.runI fi (dft W.G fi (.obj fs.hp.length :: args)) (fs.hp ++ [.ins cc []]) with
            | ok y h' =>
              simp only [e2] at h
              cases y with
              | non =>
                intro v H' S' hi rl rp
                obtain ⟨s', e'⟩ := sz.call rl hi
                exact ⟨rp.non_inv, h _ _ _ s' (((ex'.trans ey).trans ez).trans e') (.obj (rl.pre _ _ rz))⟩
              | _ => exact h.elim
            | ex c vs h' =>
              simp only [e2] at h
              intro cls d H' S' hi rl rp
              obtain ⟨s', e'⟩ := sz.call rl hi
              exact h cls d H' S' s' (((ex'.trans ey).trans ez).trans e') rp
            | no =>
              simp only [e2] at h
              exact h.elim
/-- C(..), by any promise -/
theorem x_makeQ {r : TA} {tq : TE} {cc : Nat} {cl : Cl} {fi : Nat} (c : Ct W X ev k wx) (gc : W.G.cls cc = some cl) (ex : cl.exc = false) (gi : cl.init = some fi) (hg : Gl X (W.cn cc)) (hd : (W.cn cc == ("__debug__" : Str)) = false) (ha : PAK X es kws r) (hkw : kws = [] ∨ (es.length + 1, kwNames kws) ∈ W.kw fi)
    (hq : ∀ σ H Q, tq σ H Q → r σ H fun vs H1 => ∃ fd, W.G.fns fi = some fd ∧ ∀ q dx, H1 q = none → H1 dx = none → dx ≠ q → spF W X.K X.w ev.runI fi fd (.ref q :: vs) (upd (upd H1 dx (.own q)) q (.ins (ca W X.K cc) dx [])) (fun v H2 => v = .non ∧ Q (.ref q) H2) (fun cls d H' => wx cls d σ H')) :
    PE X (.Call (.Name (W.cn cc) p) es kws pos) tq := by
  obtain ⟨m1, m2, m3⟩ := c.kf.mkI cc cl fi gc ex gi
  refine ⟨fun pins s σ H Q I h => ?_⟩
  refine wpAny_Call_Name_kw (ld_glob I hg (c.kf.gcl cc cl gc) ?_ hd)
  refine callW I (c.kf.kcl cc cl gc) ha (hq σ H Q h) fun us ws vs H2 s2 I2 rv l1 l2 ⟨fd', g', sp⟩ => ?_
  exact run_makeQ ⟨m1, m2, m3, c.kf.kcl cc cl gc⟩ (c.fnsI fi fd' g') c.room c.tk I2 rv (by rw [l2, kw_len kws ha.2.1]) (by rw [List.nil_append, l1]; exact kw_nil (ks := []) hkw) sp
theorem x_mk {cc : Nat} {cl : Cl} {fi : Nat} (c : Ct W X ev k wx) (gc : W.G.cls cc = some cl) (ex : cl.exc = false) (fr : cl.froz = true) (gi : cl.init = some fi) (hg : Gl X (W.cn cc)) (hd : (W.cn cc == ("__debug__" : Str)) = false) (ha : PAK X es kws (rd W X wx (rVs W X) (evEs ev cs)))
    (hkw : kws = [] ∨ (es.length + 1, kwNames kws) ∈ W.kw fi) : PE X (.Call (.Name (W.cn cc) p) es kws pos) (rd W X wx (rV W X) (evE ev (.mk cc cs))) :=
  x_makeQ c gc ex gi hg hd ha hkw fun σ H Q ⟨B, S, fs, s, h⟩ => Pst.go s (show Pst W X wx (rV W X) σ B S H Q ((evEs ev cs fs).bind fun vs fs => mkF ev cc vs fs) from h) fun vs H1 S1 fs1 a s1 e1 r1 h1 => go_mkF c gc ex fr gi s1 r1 h1
theorem x_mkh {cc : Nat} {cl : Cl} {fi : Nat} (c : Ct W X ev k wx) (gc : W.G.cls cc = some cl) (ex : cl.exc = false) (gi : cl.init = some fi) (hg : Gl X (W.cn cc)) (hd : (W.cn cc == ("__debug__" : Str)) = false) (ha : PAK X es kws (rd W X wx (rVs W X) (evEs ev cs)))
    (hkw : kws = [] ∨ (es.length + 1, kwNames kws) ∈ W.kw fi) : PE X (.Call (.Name (W.cn cc) p) es kws pos) (rd W X wx (rV W X) (evE ev (.mkh cc cs))) :=
  x_makeQ c gc ex gi hg hd ha hkw fun σ H Q ⟨B, S, fs, s, h⟩ => Pst.go s (show Pst W X wx (rV W X) σ B S H Q ((evEs ev cs fs).bind fun vs fs => mkH ev cc vs fs) from h) fun vs H1 S1 fs1 a s1 e1 r1 h1 => by
    obtain ⟨cl', fi', fd, g1, g2, g3, g4, sp⟩ := go_mkH c s1 r1 h1
    rw [gc] at g1
    cases g1
    rw [gi] at g3
    cases g3
    exact ⟨fd, g4, sp⟩
/-- C() of a class without __init__ -/
theorem x_mk0 {cc : Nat} {cl : Cl} (c : Ct W X ev k wx) (gc : W.G.cls cc = some cl) (ex : cl.exc = false) (fr : cl.froz = true) (gi : cl.init = none) (hg : Gl X (W.cn cc)) (hd : (W.cn cc == ("__debug__" : Str)) = false) :
    PE X (.Call (.Name (W.cn cc) p) [] [] pos) (rd W X wx (rV W X) (evE ev (.mk cc .nil))) := by
  obtain ⟨n1, m1, m2⟩ := c.kf.mkN cc cl gc ex gi fr
  refine ⟨fun pins s σ H Q I ⟨B, S, fs, s0, h⟩ => ?_⟩
  have h : Pst W X wx (rV W X) σ B S H Q (mkF ev cc [] fs) := h
  unfold mkF at h
  rw [c.g, gc] at h
  simp only [ex, fr, gi, Bool.false_eq_true, if_false] at h
  have h : Pst W X wx (rV W X) σ B S H Q (.ok (.ins cc []) fs) := h
  refine wpAny_Call_Name_kw (ld_glob I hg (c.kf.gcl cc cl gc) ?_ hd)
  refine PySem.W.callWith_K0 I.kIn (c.kf.kcl cc cl gc) (wpAny_call ?_)
  have Y := PySem.W.makes_of (M := model X.prog X.w) I.kIn m1
  have hx : H (s.heap.objs.size + 1) = none := I.hok.fresh (Nat.le_succ _)
  have hdx : H s.heap.objs.size = none := I.hok.fresh (Nat.le_refl _)
  have ne : s.heap.objs.size ≠ s.heap.objs.size + 1 := Nat.ne_of_lt (Nat.lt_succ_self _)
  have I2 := Inv.made (C := ca W X.K cc) I
  refine make_map0 I.kIn m1 m2 (fun self => PySem.W.Looks.of_pure (PySem.W.oi_bind self)) ?_
  have t1 : PySem.W.Looks (model X.prog X.w) ((s.heap.push PySem.W.emptyDict).push (PySem.W.instObj (ca W X.K cc) s.heap.objs.size)) (typeOf (.ref (s.heap.objs.size + 1))) (.ref (ca W X.K cc)) :=
    (PySem.W.Looks.ld (o := PySem.W.instObj (ca W X.K cc) s.heap.objs.size) (by
      have := Heap.get?_push_size (s.heap.push PySem.W.emptyDict) (o := PySem.W.instObj (ca W X.K cc) s.heap.objs.size) rfl
      rw [Heap.size_push] at this
      exact this)).andThen .now
  have t2 : PySem.W.Looks (model X.prog X.w) ((s.heap.push PySem.W.emptyDict).push (PySem.W.instObj (ca W X.K cc) s.heap.objs.size)) (isInstance (.ref (s.heap.objs.size + 1)) (.type "object")) true := t1.andThen (Y.top.keeps fun b o e => Heap.get?_push_of_some _ (Heap.get?_push_of_some _ e))
  refine codeAny_call_builtin PySem.W.oi_plain PySem.W.entry_oi (@PySem.W.check_slot (model X.prog X.w) _ _ _ "object.__init__" "object" "__init__" (.ref (s.heap.objs.size + 1)) [] [] _ PySem.W.oi_kind PySem.W.oi_split t2 (PySem.W.oi_args (.ref (s.heap.objs.size + 1))) ?_)
  rw [PySem.W.oi_run]
  obtain ⟨sx, ex', _⟩ := s0.lay (o := .own (s.heap.objs.size + 1)) hdx
  have hq' : upd H s.heap.objs.size (.own (s.heap.objs.size + 1)) (s.heap.objs.size + 1) = none := by rw [upd_ne (Ne.symm ne)]; exact hx
  obtain ⟨sy, ey⟩ := sx.layF (o := .ins (ca W X.K cc) s.heap.objs.size []) hq'
  refine wpAny_pure (And.intro rfl ?_)
  exact ⟨V.ref (s.heap.objs.size + 1), _, I2, rfl, h _ _ _ sy (ex'.trans ey) (.ins (.inr rfl) upd_same gc (by rw [n1]; rfl) .nil)⟩
end
end U
namespace U
open PySem PySem.Spec L2 PyProof.Rows
section
variable {W : Wd} {X : Cx} {wx : WX} {ev : Ev} {k : Nat} {es : List Expr} {kws : List Keyword} {cs : Es} {x : Str} {p pos apos : Pos} {Q : VK} {B : Base} {S S' : Syn} {fs fs' : FS} {σ : L2.St} {H : Hp} {f : Nat} {vs : List V} {args : List PV} {o : Expr} {m : Nat} {a b e e2 e3 : E} {ea eb ec : Expr}
theorem Ct.u1 (c : Ct W X ev k wx) : X.A.in1.units + 64 < cLine := by
  have := c.room.un
  show X.A.units + 1 + 64 < _
  omega
theorem Ct.u0 (c : Ct W X ev k wx) : X.A.units + 64 < cLine := c.room.units
theorem Sim.get {i : Nat} {z : PV} (s : Sim W X.K X.w B S fs σ H) (h : fs.get i = some z) : ∃ v, σ[i]? = some (some v) ∧ Rep W X.K X.w S H v z := by
  unfold FS.get at h
  split at h
  · rename_i y e
    cases h
    have hi : i < σ.length := by rw [s.len]; exact (List.getElem?_eq_some_iff.mp e).1
    have q := s.sl i _ _ e (List.getElem?_eq_getElem hi)
    cases q' : σ[i] with
    | none => rw [q'] at q; cases q
    | some v =>
      rw [q'] at q
      cases q with
      | val r => exact ⟨v, by rw [List.getElem?_eq_getElem hi, q'], r⟩
  · cases h
theorem x_var {i : Nat} (hN : X.N[i]? = some x) (hv : Vis X.env.scope x) (hd : (x == ("__debug__" : Str)) = false) (hcd : (x == ("__classdict__" : Str)) = false) : PE X (.Name x p) (rd W X wx (rV W X) (evE ev (.var i))) :=
  PE.mono (pe_var hN hv hd hcd) fun σ H Q ⟨B, S, fs, s, h⟩ => by
    obtain ⟨z, e, h⟩ := Pst.opt (o := fs.get i) h
    obtain ⟨v, e1, r⟩ := s.get e
    exact ⟨v, e1, h.here s r⟩
theorem x_frz {i : Nat} (hN : X.N[i]? = some x) (hv : Vis X.env.scope x) (hd : (x == ("__debug__" : Str)) = false) (hcd : (x == ("__classdict__" : Str)) = false) : PE X (.Name x p) (rd W X wx (rV W X) (evE ev (.frz i))) :=
  PE.mono (pe_var hN hv hd hcd) fun σ H Q ⟨B, S, fs, s, h⟩ => by
    have h : Pst W X wx (rV W X) σ B S H Q (frzS fs i) := h
    unfold frzS at h
    split at h
    · rename_i xs e
      obtain ⟨q, u, e1, o1, hu⟩ := s.own_at e rfl
      have hi : i < σ.length := (List.getElem?_eq_some_iff.mp e1).1
      have k := s.sl i _ _ e e1
      cases k with
      | @lst _ vs _ o2 h2 r2 =>
        have e0 : Ext S H (S.addF q) H := Ext.addF (.inr rfl) (fun _ _ => rfl) s.hi.al
        have rr : Rep W X.K X.w (S.addF q) H (.ref q) (.lst xs) := .lst (.inr rfl) (.inl h2) (r2.ext e0)
        obtain ⟨s2, e2⟩ := s.frzOwn e rfl e1 rr
        exact ⟨_, e1, h _ _ _ s2 e2 rr⟩
    · rename_i kvs e
      obtain ⟨q, u, e1, o1, hu⟩ := s.own_at e rfl
      have k := s.sl i _ _ e e1
      cases k with
      | @dic _ us _ o2 h2 n2 r2 =>
        have e0 : Ext S H (S.addF q) H := Ext.addF (.inr rfl) (fun _ _ => rfl) s.hi.al
        have rr : Rep W X.K X.w (S.addF q) H (.ref q) (.dic (kvs.map (·.1)) (kvs.map (·.2))) := .dic (.inr rfl) h2 n2 (r2.ext e0)
        obtain ⟨s2, e2⟩ := s.frzOwn e rfl e1 rr
        exact ⟨_, e1, h _ _ _ s2 e2 rr⟩
    · exact h.elim
theorem x_int {i : Int} {j} : PE X (.Constant (.int i) j p) (rd W X wx (rV W X) (evE ev (.int i))) := PE.mono pe_int fun σ H Q ⟨B, S, fs, s, h⟩ => Pst.here (a := PV.int i) h s (.i i)
theorem x_str {i : Str} {j} : PE X (.Constant (.str i) j p) (rd W X wx (rV W X) (evE ev (.str i))) := PE.mono pe_str fun σ H Q ⟨B, S, fs, s, h⟩ => Pst.here (a := PV.str i) h s (.s i)
theorem x_bl {i : Bool} {j} : PE X (.Constant (.bool i) j p) (rd W X wx (rV W X) (evE ev (.bl i))) := PE.mono pe_bl fun σ H Q ⟨B, S, fs, s, h⟩ => Pst.here (a := PV.bl i) h s (.b i)
theorem x_non {j} : PE X (.Constant .none j p) (rd W X wx (rV W X) (evE ev .non)) := PE.mono pe_non fun σ H Q ⟨B, S, fs, s, h⟩ => Pst.here (a := PV.non) h s .n
theorem x_gcls {cc : Nat} {cl : Cl} (c : Ct W X ev k wx) (g : W.G.cls cc = some cl) (hg : Gl X (W.cn cc)) (hd : (W.cn cc == ("__debug__" : Str)) = false) : PE X (.Name (W.cn cc) p) (rd W X wx (rV W X) (evE ev (.gcls cc))) :=
  PE.mono (pe_glob (v := .ref (ca W X.K cc)) hg (c.kf.gcl cc cl g) rfl hd) fun σ H Q ⟨B, S, fs, s, h⟩ => Pst.here (a := PV.cls cc) h s (.sc (.cls cc))
theorem x_gfn {fd : Fd} (c : Ct W X ev k wx) (g : W.G.fns f = some fd) (hm : (W.fat f).2 = none) (hg : Gl X (W.fat f).1) (hd : ((W.fat f).1 == ("__debug__" : Str)) = false) : PE X (.Name (W.fat f).1 p) (rd W X wx (rV W X) (evE ev (.gfn f))) :=
  PE.mono (pe_glob (v := .ref (fa W X.K f)) hg (c.kf.gfn f fd g hm) rfl hd) fun σ H Q ⟨B, S, fs, s, h⟩ => Pst.here (a := PV.fn f) h s (.sc (.fn f))
theorem x_gc {g : Nat} (c : Ct W X ev k wx) (hs : (W.G.gcs g).isSome = true) (hg : Gl X (W.gn g)) (hd : (W.gn g == ("__debug__" : Str)) = false) : PE X (.Name (W.gn g) p) (rd W X wx (rV W X) (evE ev (.gc g))) := by
  obtain ⟨z, e⟩ := Option.isSome_iff_exists.mp hs
  obtain ⟨v, u, h1, h2, h3⟩ := c.kf.gcs g z e
  exact PE.mono (pe_glob hg h1 h2 hd) fun σ H Q ⟨B, S, fs, s, h⟩ => by
    have h : Pst W X wx (rV W X) σ B S H Q (R.opt fs (ev.G.gcs g)) := h
    rw [c.g, e] at h
    exact Pst.here (a := z) h s (h3 S H)
theorem x_nil : PAK X [] [] (rd W X wx (rVs W X) (evEs ev .nil)) :=
  have q : ∀ σ H Q, rd W X wx (rVs W X) (evEs ev .nil) σ H Q → Q [] H := fun σ H Q ⟨B, S, fs, s, h⟩ => Pst.here (a := []) h s .nil
  ⟨rfl, rfl, ⟨tNil, tNil, pa_nil, pk_nil, fun σ H Q h => ⟨trivial, trivial, q σ H Q h⟩⟩, fun _ => ⟨fun pos pins s σ H Q I h => pa_nil.run pos pins s σ H Q I (q σ H Q h)⟩⟩
theorem rd_cons (σ : L2.St) (H : Hp) (Q : List V → Hp → Prop) (h : rd W X wx (rVs W X) (evEs ev (.cons a cs)) σ H Q) : rd W X wx (rV W X) (evE ev a) σ H fun v H1 => rd W X wx (rVs W X) (evEs ev cs) σ H1 fun vs H2 => Q (v :: vs) H2 := by
  obtain ⟨B, S, fs, s, h⟩ := h
  refine Pst.go s (show Pst W X wx (rVs W X) σ B S H Q ((evE ev a fs).bind fun v fs => (evEs ev cs fs).bind fun vs fs => .ok (v :: vs) fs) from h) fun v H1 S1 fs1 y s1 e1 r1 h1 => ?_
  refine Pst.go s1 h1 fun vs H2 S2 fs2 ys s2 e2 r2 h2 => ?_
  exact h2.here s2 (.cons (Rep.ext e2 r1) r2)
theorem x_cons (h1 : PE X o (rd W X wx (rV W X) (evE ev a))) (hn : notStar o = true) (h2 : PAK X es kws (rd W X wx (rVs W X) (evEs ev cs))) : PAK X (o :: es) kws (rd W X wx (rVs W X) (evEs ev (.cons a cs))) := by
  obtain ⟨n1, n2, ⟨t, tk, pa, pk, q⟩, q2⟩ := h2
  refine ⟨by show (notStar o && noStars es) = true; rw [hn, n1]; rfl, n2, ⟨tCons _ t, tk, pa_cons h1 pa (star_cons hn), pk, fun σ H Q h => ?_⟩, fun e => ?_⟩
  · obtain ⟨B, S, fs, s, h'⟩ := rd_cons σ H Q h
    exact ⟨B, S, fs, s, h'.mono fun v H1 h1 => q σ H1 _ h1⟩
  · have pa2 := pa_cons h1 (q2 e) (star_cons hn)
    exact ⟨fun pos pins s σ H Q I h => pa2.run pos pins s σ H Q I (rd_cons σ H Q h)⟩
/-- keywords alone -/
def PKW (X : Cx) (kws : List Keyword) (r : TA) : Prop := kwOk kws = true ∧ ∃ tk, PK X kws tk ∧ ∀ σ H Q, r σ H Q → tk σ H fun zs H1 => Sln zs kws ∧ Q zs H1
theorem x_kwnil : PKW X [] (rd W X wx (rVs W X) (evEs ev .nil)) := ⟨rfl, tNil, pk_nil, fun σ H Q ⟨B, S, fs, s, h⟩ => ⟨trivial, Pst.here (a := []) h s .nil⟩⟩
theorem x_kwcons {n : Str} {kp : Pos} (h1 : PE X o (rd W X wx (rV W X) (evE ev a))) (h2 : PKW X kws (rd W X wx (rVs W X) (evEs ev cs))) : PKW X (⟨some n, o, kp⟩ :: kws) (rd W X wx (rVs W X) (evEs ev (.cons a cs))) := by
  obtain ⟨n1, tk, pk, q⟩ := h2
  refine ⟨n1, tCons _ tk, pk_cons h1 pk, fun σ H Q h => ?_⟩
  obtain ⟨B, S, fs, s, h'⟩ := rd_cons σ H Q h
  exact ⟨B, S, fs, s, h'.mono fun v H1 h1 => q σ H1 _ h1⟩
theorem x_ofkw {r : TA} (h : PKW X kws r) (n : kws ≠ []) : PAK X [] kws r := by
  obtain ⟨n1, tk, pk, q⟩ := h
  exact ⟨rfl, n1, ⟨tNil, tk, pa_nil, pk, fun σ H Q h => ⟨trivial, q σ H Q h⟩⟩, fun e => absurd e n⟩
theorem x_tup {j} (h : PAK X es [] (rd W X wx (rVs W X) (evEs ev cs))) : PE X (.Tuple es j p) (rd W X wx (rV W X) (evE ev (.tup cs))) :=
  PE.mono (pe_tup h.pa.2) fun σ H Q ⟨B, S, fs, s, h⟩ => Pst.go s (show Pst W X wx (rV W X) σ B S H Q ((evEs ev cs fs).bind fun vs fs => if vs.length ≤ sizeLine then .ok (.tup vs) fs else .no) from h) fun vs H1 S1 fs1 xs s1 e1 r1 h1 => by
    by_cases z : xs.length ≤ sizeLine
    · rw [if_pos z] at h1
      have r1 : Reps W X.K X.w S1 H1 vs xs := r1
      exact ⟨by rw [r1.len]; exact z, fun q hq => h1.out.tup s1 hq r1⟩
    · rw [if_neg z] at h1; exact h1.elim
theorem x_disp (h : PAK X es [] (rd W X wx (rVs W X) (evEs ev cs))) : PE X (.List es p) (rd W X wx (rL W X) (evL ev (.disp cs))) :=
  PE.mono (pe_lst h.pa.2) fun σ H Q ⟨B, S, fs, s, h⟩ => Pst.go s (show Pst W X wx (rL W X) σ B S H Q ((evEs ev cs fs).bind fun vs fs => if vs.length ≤ sizeLine then .ok vs fs else .no) from h) fun vs H1 S1 fs1 xs s1 e1 r1 h1 => by
    by_cases z : xs.length ≤ sizeLine
    · rw [if_pos z] at h1
      have r1 : Reps W X.K X.w S1 H1 vs xs := r1
      refine ⟨by rw [r1.len]; exact z, fun q hq => ?_⟩
      obtain ⟨s2, e2, l2⟩ := s1.lay (o := .lst vs) hq
      exact h1 _ _ _ s2 e2 ⟨q, vs, rfl, l2, upd_same, r1.ext e2⟩
    · rw [if_neg z] at h1; exact h1.elim
/-- what is new, as a value of the frozen kind | of the own heap -/
theorem x_lst {l : LE} (h : PE X ea (rd W X wx (rL W X) (evL ev l))) : PE X ea (rd W X wx (rV W X) (evE ev (.lst l))) :=
  PE.mono h fun σ H Q ⟨B, S, fs, s, h⟩ => Pst.go s (show Pst W X wx (rV W X) σ B S H Q ((evL ev l fs).bind fun xs fs => .ok (.lst xs) fs) from h) fun v H1 S1 fs1 xs s1 e1 ⟨q, vs, e, lo, hq, r1⟩ h1 => by
    subst e
    obtain ⟨s2, e2, r2⟩ := s1.frL lo hq r1
    exact h1 _ _ _ s2 e2 r2
theorem x_hlst {l : LE} (h : PE X ea (rd W X wx (rL W X) (evL ev l))) : PE X ea (rd W X wx (rV W X) (evE ev (.hlst l))) :=
  PE.mono h fun σ H Q ⟨B, S, fs, s, h⟩ => Pst.go s (show Pst W X wx (rV W X) σ B S H Q ((evL ev l fs).bind fun xs fs => newO fs (.lst xs)) from h) fun v H1 S1 fs1 xs s1 e1 ⟨q, vs, e, lo, hq, r1⟩ h1 => by
    subst e
    obtain ⟨s2, e2, r2⟩ := s1.heap lo (.lst hq r1)
    exact h1 _ _ _ s2 e2 (.obj r2)
theorem x_dic {d : DE} (h : PE X ea (rd W X wx (rD W X) (evD ev d))) : PE X ea (rd W X wx (rV W X) (evE ev (.dic d))) :=
  PE.mono h fun σ H Q ⟨B, S, fs, s, h⟩ => Pst.go s (show Pst W X wx (rV W X) σ B S H Q ((evD ev d fs).bind fun kvs fs => .ok (.dic (kvs.map (·.1)) (kvs.map (·.2))) fs) from h) fun v H1 S1 fs1 xs s1 e1 ⟨q, vs, e, lo, hq, n1, r1⟩ h1 => by
    subst e
    obtain ⟨s2, e2, r2⟩ := s1.frD lo hq n1 r1
    exact h1 _ _ _ s2 e2 r2
theorem x_hdic {d : DE} (h : PE X ea (rd W X wx (rD W X) (evD ev d))) : PE X ea (rd W X wx (rV W X) (evE ev (.hdic d))) :=
  PE.mono h fun σ H Q ⟨B, S, fs, s, h⟩ => Pst.go s (show Pst W X wx (rV W X) σ B S H Q ((evD ev d fs).bind fun kvs fs => newO fs (.dic kvs)) from h) fun v H1 S1 fs1 xs s1 e1 ⟨q, vs, e, lo, hq, n1, r1⟩ h1 => by
    subst e
    obtain ⟨s2, e2, r2⟩ := s1.heap lo (.dic hq n1 r1)
    exact h1 _ _ _ s2 e2 (.obj r2)
theorem x_emp : PE X (.Dict [] [] p) (rd W X wx (rD W X) (evD ev .emp)) :=
  PE.mono pe_dnewK fun σ H Q ⟨B, S, fs, s, h⟩ => by
    have h : Pst W X wx (rD W X) σ B S H Q (.ok [] fs) := h
    intro q hq
    obtain ⟨s2, e2, l2⟩ := s.lay (o := .dK []) hq
    exact h _ _ _ s2 e2 ⟨q, [], rfl, l2, upd_same, rfl, .nil⟩
theorem x_bin {bo : BO} (ha : PE X ea (rd W X wx (rV W X) (evE ev a))) (hb : PE X eb (rd W X wx (rV W X) (evE ev b))) : PE X (.BinOp ea (opB bo) eb p) (rd W X wx (rV W X) (evE ev (.bin bo a b))) :=
  PE.mono (pe_op (rB_ok bo) ha hb) fun σ H Q ⟨B, S, fs, s, h⟩ => Pst.go s (show Pst W X wx (rV W X) σ B S H Q ((evE ev a fs).bind fun x fs => (evE ev b fs).bind fun y fs => R.opt fs (evBin bo x y)) from h) fun v H1 S1 fs1 y s1 e1 r1 h1 =>
    Pst.go s1 h1 fun u H2 S2 fs2 z s2 e2 r2 h2 => by
      obtain ⟨w', ew, h3⟩ := h2.opt
      exact bin_rd bo s2 (Rep.ext e2 r1) r2 ew h3.out
theorem x_neg (ha : PE X ea (rd W X wx (rV W X) (evE ev a))) : PE X (.UnaryOp .USub ea p) (rd W X wx (rV W X) (evE ev (.neg a))) :=
  PE.mono (pe_un un_neg ha) fun σ H Q ⟨B, S, fs, s, h⟩ => Pst.go s (show Pst W X wx (rV W X) σ B S H Q ((evE ev a fs).bind fun x fs => match x with
    | .int i => .ok (.int (-i)) fs
    | _ => .no) from h) fun v H1 S1 fs1 y s1 e1 r1 h1 => by
      cases y with
      | int i =>
        have r1 : Rep W X.K X.w S1 H1 v (.int i) := r1
        exact ⟨i, r1.int_inv, Pst.here (a := PV.int (-i)) h1 s1 (.i _)⟩
      | _ => exact h1.elim
theorem x_cmp {co : CO} (c : Ct W X ev k wx) (hm : behindInMarks (opC co) eb = false) (ha : PE X ea (rd W X wx (rV W X) (evE ev a))) (hb : PE X eb (rd W X wx (rV W X) (evE ev b))) : PE X (.Compare ea [opC co] [eb] p) (rd W X wx (rV W X) (evE ev (.cmp co a b))) :=
  PE.mono (pe_cmpR (rC_ok c.u1 co) ha hb hm) fun σ H Q ⟨B, S, fs, s, h⟩ => Pst.go s (show Pst W X wx (rV W X) σ B S H Q ((evE ev a fs).bind fun x fs => (evE ev b fs).bind fun y fs => R.opt fs ((evCmp co fs.hp x y).map .bl)) from h) fun v H1 S1 fs1 y s1 e1 r1 h1 =>
    Pst.go s1 h1 fun u H2 S2 fs2 z s2 e2 r2 h2 => by
      obtain ⟨w', ew, h3⟩ := h2.opt
      obtain ⟨r, er, ew⟩ := Option.map_eq_some_iff.mp ew
      subst ew
      exact cmp_rd co s2.hi (Rep.ext e2 r1) r2 er (h3.here s2 (.b r))
theorem y_cmp {co : CO} (c : Ct W X ev k wx) (hm : behindInMarks (opC co) eb = false) (ha : PE X ea (rd W X wx (rV W X) (evE ev a))) (hb : PE X eb (rd W X wx (rV W X) (evE ev b))) : PT X (.Compare ea [opC co] [eb] p) (rd W X wx (rId (α := Bool)) (evT ev (.cmp co a b))) :=
  PT.mono (pt_cmpR (rC_ok c.u1 co) ha hb hm) fun σ H Q ⟨B, S, fs, s, h⟩ => Pst.go s (show Pst W X wx (rId (α := Bool)) σ B S H Q ((evE ev a fs).bind fun x fs => (evE ev b fs).bind fun y fs => R.opt fs (evCmp co fs.hp x y)) from h) fun v H1 S1 fs1 y s1 e1 r1 h1 =>
    Pst.go s1 h1 fun u H2 S2 fs2 z s2 e2 r2 h2 => by
      obtain ⟨r, er, h3⟩ := h2.opt
      exact cmp_rd co s2.hi (Rep.ext e2 r1) r2 er ⟨r, rfl, h3.here s2 rfl⟩
theorem x_chn {co co' : CO} {d : E} (c : Ct W X ev k wx) (hm : lastMarks [opC co, opC co'] [eb, ec] = false) (ha : PE X ea (rd W X wx (rV W X) (evE ev a))) (hb : PE X eb (rd W X wx (rV W X) (evE ev b))) (hc : PE X ec (rd W X wx (rV W X) (evE ev d))) :
    PE X (.Compare ea [opC co, opC co'] [eb, ec] p) (rd W X wx (rV W X) (evE ev (.chn co co' a b d))) :=
  PE.mono (pe_chain (rC_ok c.u1 co) (rC_ok c.u1 co') ha hb hc hm) fun σ H Q ⟨B, S, fs, s, h⟩ => Pst.go s (show Pst W X wx (rV W X) σ B S H Q ((evE ev a fs).bind fun x fs => (evE ev b fs).bind fun y fs => match evCmp co fs.hp x y with
    | some true => (evE ev d fs).bind fun z fs => .opt fs ((evCmp co' fs.hp y z).map .bl)
    | some false => .ok (.bl false) fs
    | none => .no) from h) fun v H1 S1 fs1 y s1 e1 r1 h1 =>
    Pst.go s1 h1 fun u H2 S2 fs2 z s2 e2 r2 h2 => by
      cases ec : evCmp co fs2.hp y z with
      | none => simp only [ec] at h2; exact h2.elim
      | some r =>
        simp only [ec] at h2
        refine cmp_rd co s2.hi (Rep.ext e2 r1) r2 ec ⟨r, rfl, ?_⟩
        cases r with
        | false => exact Pst.here (a := PV.bl false) h2 s2 (.b false)
        | true =>
          refine Pst.go s2 h2 fun t H3 S3 fs3 z3 s3 e3 r3 h3 => ?_
          obtain ⟨w', ew, h4⟩ := h3.opt
          obtain ⟨r, er, ew⟩ := Option.map_eq_some_iff.mp ew
          subst ew
          exact cmp_rd co' s3.hi (Rep.ext e3 r2) r3 er (h4.here s3 (.b r))
theorem y_chn {co co' : CO} {d : E} (c : Ct W X ev k wx) (hm : lastMarks [opC co, opC co'] [eb, ec] = false) (ha : PE X ea (rd W X wx (rV W X) (evE ev a))) (hb : PE X eb (rd W X wx (rV W X) (evE ev b))) (hc : PE X ec (rd W X wx (rV W X) (evE ev d))) :
    PT X (.Compare ea [opC co, opC co'] [eb, ec] p) (rd W X wx (rId (α := Bool)) (evT ev (.chn co co' a b d))) :=
  PT.mono (pt_chain (rC_ok c.u1 co) (rC_ok c.u1 co') ha hb hc hm) fun σ H Q ⟨B, S, fs, s, h⟩ => Pst.go s (show Pst W X wx (rId (α := Bool)) σ B S H Q ((evE ev a fs).bind fun x fs => (evE ev b fs).bind fun y fs => match evCmp co fs.hp x y with
    | some true => (evE ev d fs).bind fun z fs => .opt fs (evCmp co' fs.hp y z)
    | some false => .ok false fs
    | none => .no) from h) fun v H1 S1 fs1 y s1 e1 r1 h1 =>
    Pst.go s1 h1 fun u H2 S2 fs2 z s2 e2 r2 h2 => by
      cases ec : evCmp co fs2.hp y z with
      | none => simp only [ec] at h2; exact h2.elim
      | some r =>
        simp only [ec] at h2
        refine cmp_rd co s2.hi (Rep.ext e2 r1) r2 ec ⟨r, rfl, ?_⟩
        cases r with
        | false => exact ⟨false, rfl, Pst.here (a := false) h2 s2 rfl⟩
        | true =>
          refine Pst.go s2 h2 fun t H3 S3 fs3 z3 s3 e3 r3 h3 => ?_
          obtain ⟨r, er, h4⟩ := h3.opt
          exact cmp_rd co' s3.hi (Rep.ext e3 r2) r3 er ⟨r, rfl, h4.here s3 rfl⟩
end
end U
namespace U
open PySem PySem.Spec L2 PyProof.Rows
section
variable {W : Wd} {X : Cx} {wx : WX} {ev : Ev} {k : Nat} {es : List Expr} {kws : List Keyword} {cs : Es} {x : Str} {p pos apos : Pos} {Q : VK} {B : Base} {S S' : Syn} {fs fs' : FS} {σ : L2.St} {H : Hp} {f : Nat} {vs : List V} {args : List PV} {o : Expr} {m : Nat} {a b e e2 e3 : E} {ea eb ec : Expr} {t u : T}
abbrev rB1 : RRel Bool Bool := rId
theorem y_v (h : PE X ea (rd W X wx (rV W X) (evE ev a))) (hp : plainT ea = true) : PT X ea (rd W X wx rB1 (evT ev (.v a))) :=
  PT.mono (pt_val h (isTrue_of hp)) fun σ H Q ⟨B, S, fs, s, h⟩ => Pst.go s (show Pst W X wx rB1 σ B S H Q ((evE ev a fs).bind fun x fs => match x with
    | .bl k => .ok k fs
    | _ => .no) from h) fun v H1 S1 fs1 y s1 e1 r1 h1 => by
      cases y with
      | bl k =>
        have r1 : Rep W X.K X.w S1 H1 v (.bl k) := r1
        exact ⟨k, r1.bl_inv, Pst.here (a := k) h1 s1 rfl⟩
      | _ => exact h1.elim
theorem y_cv {op : CmpOp} {tt : TE} (h : PC X op ea eb tt) (h1 : behindInMarks op eb = false) (hq : ∀ σ H Q, rd W X wx (rV W X) (evE ev a) σ H Q → tt σ H Q) : PT X (.Compare ea [op] [eb] p) (rd W X wx rB1 (evT ev (.v a))) :=
  PT.mono (pt_cmp h h1) fun σ H Q ⟨B, S, fs, s, h⟩ => hq _ _ _ (Pst.go s (show Pst W X wx rB1 σ B S H Q ((evE ev a fs).bind fun x fs => match x with
    | .bl k => .ok k fs
    | _ => .no) from h) fun v H1 S1 fs1 y s1 e1 r1 h1 => by
      cases y with
      | bl k =>
        have r1 : Rep W X.K X.w S1 H1 v (.bl k) := r1
        exact ⟨k, r1.bl_inv, Pst.here (a := k) h1 s1 rfl⟩
      | _ => exact h1.elim)
theorem rd_and {σ : L2.St} {H : Hp} {Q : Bool → Hp → Prop} (h : rd W X wx rB1 (evT ev (.and_ t u)) σ H Q) : tAnd (rd W X wx rB1 (evT ev t)) (rd W X wx rB1 (evT ev u)) σ H Q := by
  obtain ⟨B, S, fs, s, h⟩ := h
  refine Pst.go s (show Pst W X wx rB1 σ B S H Q ((evT ev t fs).bind fun k fs => match k with
    | true => evT ev u fs
    | false => .ok false fs) from h) fun v H1 S1 fs1 y s1 e1 r1 h1 => ?_
  cases (show v = y from r1)
  cases v with
  | true => exact ⟨B, S1, fs1, s1, h1⟩
  | false => exact Pst.here (a := false) h1 s1 rfl
theorem rd_or {σ : L2.St} {H : Hp} {Q : Bool → Hp → Prop} (h : rd W X wx rB1 (evT ev (.or_ t u)) σ H Q) : tOr (rd W X wx rB1 (evT ev t)) (rd W X wx rB1 (evT ev u)) σ H Q := by
  obtain ⟨B, S, fs, s, h⟩ := h
  refine Pst.go s (show Pst W X wx rB1 σ B S H Q ((evT ev t fs).bind fun k fs => match k with
    | true => .ok true fs
    | false => evT ev u fs) from h) fun v H1 S1 fs1 y s1 e1 r1 h1 => ?_
  cases (show v = y from r1)
  cases v with
  | true => exact Pst.here (a := true) h1 s1 rfl
  | false => exact ⟨B, S1, fs1, s1, h1⟩
theorem y_not (h : PT X ea (rd W X wx rB1 (evT ev t))) : PT X (.UnaryOp .Not ea p) (rd W X wx rB1 (evT ev (.not_ t))) :=
  PT.mono (pt_not h) fun σ H Q ⟨B, S, fs, s, h⟩ => Pst.go s (show Pst W X wx rB1 σ B S H Q ((evT ev t fs).bind fun k fs => .ok (!k) fs) from h) fun v H1 S1 fs1 y s1 e1 r1 h1 => by
    cases (show v = y from r1)
    exact h1.here s1 rfl
theorem rd_andv {σ : L2.St} {H : Hp} {Q : VK} (h : rd W X wx (rV W X) (evE ev (.andv a b)) σ H Q) : tAndV (rd W X wx (rV W X) (evE ev a)) (rd W X wx (rV W X) (evE ev b)) σ H Q := by
  obtain ⟨B, S, fs, s, h⟩ := h
  refine Pst.go s (show Pst W X wx (rV W X) σ B S H Q ((evE ev a fs).bind fun x fs => match x with
    | .bl true => evE ev b fs
    | .bl false => .ok (.bl false) fs
    | _ => .no) from h) fun v H1 S1 fs1 y s1 e1 r1 h1 => ?_
  cases y with
  | bl k =>
    have r1 : Rep W X.K X.w S1 H1 v (.bl k) := r1
    refine ⟨k, r1.bl_inv, ?_⟩
    cases k with
    | true => exact ⟨B, S1, fs1, s1, h1⟩
    | false => exact Pst.here (a := PV.bl false) h1 s1 (.b _)
  | _ => exact h1.elim
theorem rd_orv {σ : L2.St} {H : Hp} {Q : VK} (h : rd W X wx (rV W X) (evE ev (.orv a b)) σ H Q) : tOrV (rd W X wx (rV W X) (evE ev a)) (rd W X wx (rV W X) (evE ev b)) σ H Q := by
  obtain ⟨B, S, fs, s, h⟩ := h
  refine Pst.go s (show Pst W X wx (rV W X) σ B S H Q ((evE ev a fs).bind fun x fs => match x with
    | .bl true => .ok (.bl true) fs
    | .bl false => evE ev b fs
    | _ => .no) from h) fun v H1 S1 fs1 y s1 e1 r1 h1 => ?_
  cases y with
  | bl k =>
    have r1 : Rep W X.K X.w S1 H1 v (.bl k) := r1
    refine ⟨k, r1.bl_inv, ?_⟩
    cases k with
    | true => exact Pst.here (a := PV.bl true) h1 s1 (.b _)
    | false => exact ⟨B, S1, fs1, s1, h1⟩
  | _ => exact h1.elim
theorem x_notv (h : PE X ea (rd W X wx (rV W X) (evE ev a))) : PE X (.UnaryOp .Not ea p) (rd W X wx (rV W X) (evE ev (.notv a))) :=
  PE.mono (pe_not h) fun σ H Q ⟨B, S, fs, s, h⟩ => Pst.go s (show Pst W X wx (rV W X) σ B S H Q ((evE ev a fs).bind fun x fs => match x with
    | .bl k => .ok (.bl (!k)) fs
    | _ => .no) from h) fun v H1 S1 fs1 y s1 e1 r1 h1 => by
      cases y with
      | bl k =>
        have r1 : Rep W X.K X.w S1 H1 v (.bl k) := r1
        exact ⟨k, r1.bl_inv, Pst.here (a := PV.bl (!k)) h1 s1 (.b _)⟩
      | _ => exact h1.elim
def nonB : PV → Bool
  | .non => true
  | _ => false
theorem Rep.isNon {v : V} {y : PV} (r : Rep W X.K X.w S H v y) : decide (v = .non) = nonB y := by
  cases y with
  | non => rw [r.non_inv]; rfl
  | exc c vs => cases r with | sc r => cases r
  | _ => cases r <;> first | rfl | (rename_i r; cases r <;> rfl)
theorem rd_isn {neg : Bool} {σ : L2.St} {H : Hp} {Q : VK} (h : rd W X wx (rV W X) (evE ev (.isn a neg)) σ H Q) : rd W X wx (rV W X) (evE ev a) σ H fun v H1 => Q (.bl (if neg then !decide (v = .non) else decide (v = .non))) H1 := by
  obtain ⟨B, S, fs, s, h⟩ := h
  refine Pst.go s (show Pst W X wx (rV W X) σ B S H Q ((evE ev a fs).bind fun x fs => match x with
    | .non => .ok (.bl (!neg)) fs
    | _ => .ok (.bl neg) fs) from h) fun v H1 S1 fs1 y s1 e1 r1 h1 => ?_
  rw [Rep.isNon r1]
  cases y with
  | non => cases neg <;> exact Pst.here h1 s1 (.b _)
  | _ => cases neg <;> exact Pst.here h1 s1 (.b _)
theorem c_isn (c : PE X ea (rd W X wx (rV W X) (evE ev a))) {j} {p'} : PC X .Is ea (.Constant .none j p') (fun σ H Q => rd W X wx (rV W X) (evE ev (.isn a false)) σ H Q) :=
  ⟨fun pins s σ H Q I h => (pc_isN c).run pins s σ H Q I (rd_isn h)⟩
theorem c_notn (c : PE X ea (rd W X wx (rV W X) (evE ev a))) {j} {p'} : PC X .IsNot ea (.Constant .none j p') (fun σ H Q => rd W X wx (rV W X) (evE ev (.isn a true)) σ H Q) :=
  ⟨fun pins s σ H Q I h => (pc_notN c).run pins s σ H Q I (rd_isn h)⟩
theorem x_isn (c : PE X ea (rd W X wx (rV W X) (evE ev a))) {j} {p'} : PE X (.Compare ea [.Is] [.Constant .none j p'] p) (rd W X wx (rV W X) (evE ev (.isn a false))) := pe_cmp (c_isn c)
theorem x_notn (c : PE X ea (rd W X wx (rV W X) (evE ev a))) {j} {p'} : PE X (.Compare ea [.IsNot] [.Constant .none j p'] p) (rd W X wx (rV W X) (evE ev (.isn a true))) := pe_cmp (c_notn c)
theorem y_isn (c : PE X ea (rd W X wx (rV W X) (evE ev a))) {j} {p'} : PT X (.Compare ea [.Is] [.Constant .none j p'] p) (rd W X wx rB1 (evT ev (.v (.isn a false)))) := y_cv (c_isn c) (by first | exact nobehind _ (by decide) (by decide) | rfl) fun _ _ _ h => h
theorem y_notn (c : PE X ea (rd W X wx (rV W X) (evE ev a))) {j} {p'} : PT X (.Compare ea [.IsNot] [.Constant .none j p'] p) (rd W X wx rB1 (evT ev (.v (.isn a true)))) := y_cv (c_notn c) (by first | exact nobehind _ (by decide) (by decide) | rfl) fun _ _ _ h => h
theorem x_ifx (hc : PT X ec (rd W X wx rB1 (evT ev t))) (ha : PE X ea (rd W X wx (rV W X) (evE ev a))) (hb : PE X eb (rd W X wx (rV W X) (evE ev b))) : PE X (.IfExp ec ea eb p) (rd W X wx (rV W X) (evE ev (.ifx t a b))) :=
  PE.mono (pe_ifExp hc ha hb) fun σ H Q ⟨B, S, fs, s, h⟩ => Pst.go s (show Pst W X wx (rV W X) σ B S H Q ((evT ev t fs).bind fun k fs => match k with
    | true => evE ev a fs
    | false => evE ev b fs) from h) fun v H1 S1 fs1 y s1 e1 r1 h1 => by
      cases (show v = y from r1)
      cases v with
      | true => exact ⟨B, S1, fs1, s1, h1⟩
      | false => exact ⟨B, S1, fs1, s1, h1⟩
theorem fIx_mem : ∀ {ks : List Nat} {xs : List PV} {j : Nat} {z : PV}, fIx ks xs j = some z → j ∈ ks
  | [], _, _, _, h => by cases h
  | _ :: _, [], _, _, h => by cases h
  | k :: ks, v :: vs, j, z, h => by
    unfold fIx at h
    cases e : Nat.beq k j with
    | true => rw [Nat.eq_of_beq_eq_true e]; exact List.mem_cons_self ..
    | false => rw [e] at h; exact List.mem_cons_of_mem _ (fIx_mem h)
theorem fIx_rep {an : Nat → Str} {j : Nat} {z : PV} : ∀ {ks : List Nat} {xs : List PV} {fl : List (Str × V)}, (∀ q ∈ ks, an q = an j → q = j) → fl.map (·.1) = ks.map an → Reps W X.K X.w S H (fl.map (·.2)) xs → fIx ks xs j = some z → ∃ v, fl.lookup (an j) = some v ∧ Rep W X.K X.w S H v z
  | [], _, _, _, _, _, h => by cases h
  | _ :: _, [], _, _, _, _, h => by cases h
  | k :: ks, y :: xs, [], _, n, _, _ => by cases n
  | k :: ks, y :: xs, (s, v) :: fl, inj, n, r, h => by
    have n1 : s = an k := (List.cons.inj n).1
    cases r with
    | cons r1 r2 =>
      unfold fIx at h
      rw [List.lookup_cons]
      cases e : Nat.beq k j with
      | true =>
        rw [e] at h
        cases h
        have : (an j == s) = true := by rw [n1, Nat.eq_of_beq_eq_true e]; exact beq_self_eq_true _
        rw [this]
        exact ⟨v, rfl, r1⟩
      | false =>
        rw [e] at h
        have : (an j == s) = false := by
          rw [n1]
          refine beq_eq_false_iff_ne.mpr fun z' => ?_
          have := inj k (List.mem_cons_self ..) z'.symm
          rw [this] at e
          rw [Nat.beq_refl] at e
          cases e
        rw [this]
        exact fIx_rep (fun q m => inj q (List.mem_cons_of_mem _ m)) (List.cons.inj n).2 r2 h
theorem fGet_fIx {j : Nat} : ∀ {fl : List (Nat × PV)}, fGet fl j = fIx (fl.map (·.1)) (fl.map (·.2)) j
  | [] => rfl
  | (k, v) :: r => by
    show (match Nat.beq k j with | true => some v | false => fGet r j) = (match Nat.beq k j with | true => some v | false => fIx (r.map (·.1)) (r.map (·.2)) j)
    rw [fGet_fIx]
theorem fld_rep (c : Ct W X ev k wx) {v : V} {y z : PV} {fk : Nat} (s : HInv W X.K X.w S fs.hp H) (r : Rep W X.K X.w S H v y) (e : fldV W.G fs.hp y fk = some z) (hx : ∀ cc cl, W.G.cls cc = some cl → cl.exc = true → cl.flds = []) :
    ∃ a C dx fl u, v = .ref a ∧ H a = some (.ins C dx fl) ∧ Cls X.K C ∧ NoAttr X.K C (W.an fk) ∧ fl.lookup (W.an fk) = some u ∧ Rep W X.K X.w S H u z := by
  have ne : ∀ cc cl, W.G.cls cc = some cl → fk ∈ cl.flds → cl.exc = false := fun cc cl g m => by
    cases q : cl.exc with
    | false => rfl
    | true => rw [hx cc cl g q] at m; cases m
  cases y with
  | ins cc xs =>
    cases r with
    | sc r => cases r
    | @ins p dx fl _ cl _ f h1 g n r =>
      have e : (W.G.cls cc).bind (fun cl => fIx cl.flds xs fk) = some z := e
      rw [g] at e
      have m := fIx_mem e
      obtain ⟨u, e1, r1⟩ := fIx_rep (fun q mq => c.kf.inj cc cl q fk g mq m) n r e
      exact ⟨p, _, dx, fl, u, rfl, h1, c.kf.cls cc cl g (ne cc cl g m), c.kf.noat cc cl fk g (ne cc cl g m) m, e1, r1⟩
  | obj a =>
    obtain ⟨p, rfl, hp⟩ := r.obj_inv
    obtain ⟨u, hu, ob⟩ := s.at hp
    unfold fldV at e
    simp only [hu] at e
    cases ob with
    | lst h r => cases e
    | dic h k r => cases e
    | @ins dx fl cc fl' h1 n l r =>
      obtain ⟨cl, g, l2⟩ := l
      have e : fGet fl' fk = some z := e
      rw [fGet_fIx] at e
      have m0 := fIx_mem e
      obtain ⟨q0, m1, m2⟩ := List.mem_map.mp m0
      have m : fk ∈ cl.flds := by rw [← m2]; exact l2 q0 m1
      obtain ⟨u, e1, r1⟩ := fIx_rep (an := W.an) (fun q mq => by
        obtain ⟨q', mq1, mq2⟩ := List.mem_map.mp mq
        exact c.kf.inj cc cl q fk g (by rw [← mq2]; exact l2 q' mq1) m) (by rw [n, List.map_map]; rfl) r e
      exact ⟨p, _, dx, fl, u, rfl, h1, c.kf.cls cc cl g (ne cc cl g m), c.kf.noat cc cl fk g (ne cc cl g m) m, e1, r1⟩
  | _ => cases e
theorem x_fld {fk : Nat} (c : Ct W X ev k wx) (hb : notCall0 ea = true) (hx : ∀ cc cl, W.G.cls cc = some cl → cl.exc = true → cl.flds = []) (ha : PE X ea (rd W X wx (rV W X) (evE ev a))) : PE X (.Attribute ea (W.an fk) p) (rd W X wx (rV W X) (evE ev (.fld a fk))) :=
  PE.mono (pe_fld ha (base_of hb)) fun σ H Q ⟨B, S, fs, s, h⟩ => Pst.go s (show Pst W X wx (rV W X) σ B S H Q ((evE ev a fs).bind fun x fs => R.opt fs (fldV ev.G fs.hp x fk)) from h) fun v H1 S1 fs1 y s1 e1 r1 h1 => by
    obtain ⟨z, ez, h2⟩ := h1.opt
    rw [c.g] at ez
    obtain ⟨a', C, dx, fl, u, e1, e2, e3, e4, e5, r2⟩ := fld_rep c s1.hi r1 ez hx
    exact ⟨a', C, dx, fl, u, e1, e2, e3, e4, e5, h2.here s1 r2⟩
theorem ix_dict (hu : X.A.units + 1 < cLine) : IxR X (rDix X) := by
  intro value slice pins s σ H x y v u Q I rx ry h hs
  rcases h with ⟨a, w, rfl, g, q⟩ | ⟨d, es, n, z, u0, v0, D, rfl, rfl, e, r, q⟩
  · obtain rfl : v = Value.ref a := rx
    exact tail_any (dict_typeIs I g) slot_dict_getitem.lookup (d_getItem hu I g ry fun w' s3 I3 rw' => ⟨w, H, I3, rw', q⟩) hs
  · exact ix_kdict value slice pins s σ H _ _ v u Q I rx ry ⟨d, z, v0, rfl, rfl, ⟨es, n, u0, D.at_, D.lit, e, r⟩, q⟩ hs
theorem x_ix (c : Ct W X ev k wx) (hs : notSlice eb = true) (ha : PE X ea (rd W X wx (rV W X) (evE ev a))) (hb : PE X eb (rd W X wx (rV W X) (evE ev b))) : PE X (.Subscript ea eb p) (rd W X wx (rV W X) (evE ev (.ix a b))) :=
  PE.mono (pe_ix (ix_list.or (ix_tup.or (ix_str.or (ix_dict (by have := c.u0; omega))))) ha hb (plainIx_of hs)) fun σ H Q ⟨B, S, fs, s, h⟩ => Pst.go s (show Pst W X wx (rV W X) σ B S H Q ((evE ev a fs).bind fun x fs => (evE ev b fs).bind fun y fs => R.opt fs (evIx fs.hp x y)) from h) fun v H1 S1 fs1 y s1 e1 r1 h1 =>
    Pst.go s1 h1 fun u H2 S2 fs2 z s2 e2 r2 h2 => by
      obtain ⟨w', ew, h3⟩ := h2.opt
      exact ix_rd s2.hi (Rep.ext e2 r1) r2 ew fun w r => h3.here s2 r
end
end U
namespace U
open PySem PySem.Spec L2 PyProof.Rows
section
variable {W : Wd} {X : Cx} {wx : WX} {ev : Ev} {k : Nat} {es : List Expr} {kws : List Keyword} {cs : Es} {x : Str} {p pos apos : Pos} {Q : VK} {B : Base} {S S' : Syn} {fs fs' : FS} {σ : L2.St} {H : Hp} {f : Nat} {vs : List V} {args : List PV} {o : Expr} {m : Nat} {a b e e2 e3 : E} {ea eb ec : Expr} {t u : T} {h : Hb}
theorem reps1 {xs : List PV} {y : PV} (r : Reps W X.K X.w S H vs xs) (e : xs = [y]) : ∃ v, vs = [v] ∧ Rep W X.K X.w S H v y := by
  subst e
  cases r with
  | cons h r => cases r; exact ⟨_, rfl, h⟩
theorem reps2 {xs : List PV} {y z : PV} (r : Reps W X.K X.w S H vs xs) (e : xs = [y, z]) : ∃ v w, vs = [v, w] ∧ Rep W X.K X.w S H v y ∧ Rep W X.K X.w S H w z := by
  subst e
  cases r with
  | cons h r =>
    obtain ⟨w, e, h2⟩ := reps1 r rfl
    exact ⟨_, w, by rw [e], h, h2⟩
theorem reps3 {xs : List PV} {y z y' : PV} (r : Reps W X.K X.w S H vs xs) (e : xs = [y, z, y']) : ∃ v w v', vs = [v, w, v'] ∧ Rep W X.K X.w S H v y ∧ Rep W X.K X.w S H w z ∧ Rep W X.K X.w S H v' y' := by
  subst e
  cases r with
  | cons h r =>
    obtain ⟨w, v', e, h2, h3⟩ := reps2 r rfl
    exact ⟨_, w, v', by rw [e], h, h2, h3⟩
/-- lists of booleans, of ints, of texts -/
theorem bools_of : ∀ {vs : List V} {xs : List PV} {r : Bool}, Reps W X.K X.w S H vs xs → allB xs = some r → ∃ bs : List Bool, vs = bs.map V.bl ∧ bs.all id = r
  | _, [], r, q, e => by cases q; cases e; exact ⟨[], rfl, rfl⟩
  | _, y :: xs, r, q, e => by
    cases q with
    | cons h1 q =>
      cases y with
      | bl k =>
        obtain ⟨r', e1, e2⟩ := Option.map_eq_some_iff.mp (show (allB xs).map (k && ·) = some r from e)
        obtain ⟨bs, e3, e4⟩ := bools_of q e1
        refine ⟨k :: bs, ?_, ?_⟩
        · rw [e3, h1.bl_inv]; rfl
        · rw [List.all_cons, e4]; exact e2
      | _ => cases e
theorem boolsA_of : ∀ {vs : List V} {xs : List PV} {r : Bool}, Reps W X.K X.w S H vs xs → anyB xs = some r → ∃ bs : List Bool, vs = bs.map V.bl ∧ bs.any id = r
  | _, [], r, q, e => by cases q; cases e; exact ⟨[], rfl, rfl⟩
  | _, y :: xs, r, q, e => by
    cases q with
    | cons h1 q =>
      cases y with
      | bl k =>
        obtain ⟨r', e1, e2⟩ := Option.map_eq_some_iff.mp (show (anyB xs).map (k || ·) = some r from e)
        obtain ⟨bs, e3, e4⟩ := boolsA_of q e1
        refine ⟨k :: bs, ?_, ?_⟩
        · rw [e3, h1.bl_inv]; rfl
        · rw [List.any_cons, e4]; exact e2
      | _ => cases e
theorem ints_of' : ∀ {vs : List V} {xs : List PV} {r : Int}, Reps W X.K X.w S H vs xs → sumI xs = some r → ∃ ns : List Int, vs = ns.map V.int ∧ ns.sum = r
  | _, [], r, q, e => by cases q; cases e; exact ⟨[], rfl, rfl⟩
  | _, y :: xs, r, q, e => by
    cases q with
    | cons h1 q =>
      cases y with
      | int k =>
        obtain ⟨r', e1, e2⟩ := Option.map_eq_some_iff.mp (show (sumI xs).map (k + ·) = some r from e)
        obtain ⟨bs, e3, e4⟩ := ints_of' q e1
        refine ⟨k :: bs, ?_, ?_⟩
        · rw [e3, h1.int_inv]; rfl
        · rw [List.sum_cons, e4]; exact e2
      | _ => cases e
theorem txts_of : ∀ {vs : List V} {xs : List PV} {ts : List Str}, Reps W X.K X.w S H vs xs → txts xs = some ts → vs = ts.map V.str
  | _, [], r, q, e => by cases q; cases e; rfl
  | _, y :: xs, r, q, e => by
    cases q with
    | cons h1 q =>
      cases y with
      | str k =>
        obtain ⟨r', e1, e2⟩ := Option.map_eq_some_iff.mp (show (txts xs).map (k :: ·) = some r from e)
        subst e2
        rw [txts_of q e1, h1.str_inv]; rfl
      | _ => cases e
theorem reps_txt : ∀ ts : List Str, Reps W X.K X.w S H (ts.map V.str) (ts.map PV.str)
  | [] => .nil
  | t :: r => .cons (.s t) (reps_txt r)
/-- a rule of a built-in def by values -/
def BfOk (W : Wd) (X : Cx) (bf : BF) (r : List V → Hp → VK → Prop) : Prop := ∀ (S : Syn) (h : Hb) (H : Hp) (vs : List V) (args : List PV) (z : PV) (Q : VK), HInv W X.K X.w S h H → Reps W X.K X.w S H vs args → evBF bf h args = some z → (∀ w, Rep W X.K X.w S H w z → Q w H) → r vs H Q
theorem x_bfB {bf : BF} {id : String} {r : List V → Hp → VK → Prop} {e0 : Expr} (hr : BfOk W X bf r) (hc : CallR X (.builtin id) r) (hg : Gl X x) (hm : X.mg x = none) (hv : bootBuiltins x = some (.builtin id)) (hn : x ≠ "__name__") (hd : (x == ("__debug__" : Str)) = false)
    (ha : PAK X (e0 :: es) [] (rd W X wx (rVs W X) (evEs ev cs))) : PE X (.Call (.Name x p) (e0 :: es) [] pos) (rd W X wx (rV W X) (evE ev (.bf bf cs))) := by
  have n := Bool.and_eq_true_iff.mp (show (notStar e0 && noStars es) = true from ha.1)
  exact PE.mono (pe_callB hc hg hm hv ha.pa.2 hn hd (star_cons n.1) (star_none _ _ es n.2)) fun σ H Q ⟨B, S, fs, s, h⟩ => Pst.go s (show Pst W X wx (rV W X) σ B S H Q ((evEs ev cs fs).bind fun vs fs => R.opt fs (evBF bf fs.hp vs)) from h) fun v H1 S1 fs1 y s1 e1 r1 h1 => by
    obtain ⟨z, ez, h2⟩ := h1.opt
    exact hr S1 fs1.hp H1 v y z Q s1.hi r1 ez fun w rw => h2.here s1 rw
theorem x_bfT {bf : BF} {id : String} {r : List V → Hp → VK → Prop} {e0 : Expr} (hr : BfOk W X bf r) (hc : CallR X (.type id) r) (hg : Gl X x) (hm : X.mg x = none) (hv : bootBuiltins x = some (.type id)) (hn : x ≠ "__name__") (hd : (x == ("__debug__" : Str)) = false)
    (ha : PAK X (e0 :: es) [] (rd W X wx (rVs W X) (evEs ev cs))) : PE X (.Call (.Name x p) (e0 :: es) [] pos) (rd W X wx (rV W X) (evE ev (.bf bf cs))) := by
  have n := Bool.and_eq_true_iff.mp (show (notStar e0 && noStars es) = true from ha.1)
  exact PE.mono (pe_callTy hc hg hm hv ha.pa.2 hn hd (star_cons n.1) (star_none _ _ es n.2)) fun σ H Q ⟨B, S, fs, s, h⟩ => Pst.go s (show Pst W X wx (rV W X) σ B S H Q ((evEs ev cs fs).bind fun vs fs => R.opt fs (evBF bf fs.hp vs)) from h) fun v H1 S1 fs1 y s1 e1 r1 h1 => by
    obtain ⟨z, ez, h2⟩ := h1.opt
    exact hr S1 fs1.hp H1 v y z Q s1.hi r1 ez fun w rw => h2.here s1 rw
theorem f_len : BfOk W X .len (fun xs H Q => ∃ x n, xs = [x] ∧ LenV X.K x H n ∧ Q (.int n) H) := by
  intro S h H vs args z Q i r e q
  cases args with
  | nil => cases e
  | cons y ys =>
    cases ys with
    | cons _ _ => cases e
    | nil =>
      obtain ⟨v, ev, rv⟩ := reps1 r rfl
      subst ev
      have seq : (asS h y).map (fun xs => PV.int xs.length) = some z → ∃ x n, [v] = [x] ∧ LenV X.K x H n ∧ Q (.int n) H := fun e => by
        obtain ⟨xs, e1, e2⟩ := Option.map_eq_some_iff.mp e
        subst e2
        obtain ⟨p, us, rfl, hq, r2⟩ := asS_rep i rv e1
        refine ⟨_, us.length, rfl, ?_, ?_⟩
        · rcases hq with hq | hq
          · exact .inl ⟨us, hq, rfl⟩
          · exact .inr ⟨us, hq, rfl⟩
        · rw [r2.len]; exact q _ (.i _)
      cases y with
      | str t =>
        have e : (if t.length ≤ sizeLine then some (PV.int t.length) else none) = some z := e
        by_cases l : t.length ≤ sizeLine
        · rw [if_pos l] at e
          cases e
          rw [rv.str_inv]
          exact ⟨_, t.length, rfl, ⟨l, rfl⟩, q _ (.i _)⟩
        · rw [if_neg l] at e; cases e
      | _ => exact seq e
theorem f_abs : BfOk W X .abs (fun xs H Q => ∃ i, xs = [.int i] ∧ Q (.int (if i < 0 then -i else i)) H) := by
  intro S h H vs args z Q i r e q
  unfold evBF at e
  split at e <;> first | contradiction | skip
  rename_i i' h'
  cases e
  obtain ⟨v, ev, rv⟩ := reps1 r rfl
  rw [ev, rv.int_inv]
  exact ⟨i', rfl, q _ (.i _)⟩
theorem f_min2 : BfOk W X .min2 (fun xs H Q => ∃ i j, xs = [.int i, .int j] ∧ Q (.int (if j < i then j else i)) H) := by
  intro S h H vs args z Q i r e q
  unfold evBF at e
  split at e <;> first | contradiction | skip
  cases e
  obtain ⟨v, w, ev, rv, rw'⟩ := reps2 r rfl
  rw [ev, rv.int_inv, rw'.int_inv]
  exact ⟨_, _, rfl, q _ (.i _)⟩
theorem f_max2 : BfOk W X .max2 (fun xs H Q => ∃ i j, xs = [.int i, .int j] ∧ Q (.int (if j > i then j else i)) H) := by
  intro S h H vs args z Q i r e q
  unfold evBF at e
  split at e <;> first | contradiction | skip
  cases e
  obtain ⟨v, w, ev, rv, rw'⟩ := reps2 r rfl
  rw [ev, rv.int_inv, rw'.int_inv]
  exact ⟨_, _, rfl, q _ (.i _)⟩
theorem f_max3 : BfOk W X .max3 (rNuC3 nuMax3) := by
  intro S h H vs args z Q i r e q
  unfold evBF at e
  split at e <;> first | contradiction | skip
  cases e
  obtain ⟨v, w, v', ev, rv, rw', r3⟩ := reps3 r rfl
  rw [ev, rv.int_inv, rw'.int_inv, r3.int_inv]
  rename_i i1 j1 k1 _
  refine ⟨.int i1, .int j1, .int k1, _, rfl, ?_, q _ (.i _)⟩
  show ((some (decide (i1 < j1))).map fun c => if c = true then V.int j1 else V.int i1).bind (fun m => nuMax2 m (.int k1)) = _
  by_cases h1 : i1 < j1
  · rw [decide_eq_true h1]
    show ((some (decide (j1 < k1))).map fun c => if c = true then V.int k1 else V.int j1) = _
    rw [show (if j1 > i1 then j1 else i1) = j1 from if_pos h1]
    by_cases h2 : j1 < k1
    · rw [decide_eq_true h2, if_pos h2]; rfl
    · rw [decide_eq_false h2, if_neg h2]; rfl
  · rw [decide_eq_false h1]
    show ((some (decide (i1 < k1))).map fun c => if c = true then V.int k1 else V.int i1) = _
    rw [show (if j1 > i1 then j1 else i1) = i1 from if_neg h1]
    by_cases h2 : i1 < k1
    · rw [decide_eq_true h2, if_pos h2]; rfl
    · rw [decide_eq_false h2, if_neg h2]; rfl
theorem f_int1 : BfOk W X .int1 (fun xs H Q => (∃ i, xs = [.int i] ∧ Q (.int i) H) ∨ ∃ k, xs = [.bl k] ∧ Q (.int (if k then 1 else 0)) H) := by
  intro S h H vs args z Q i r e q
  unfold evBF at e
  split at e <;> first | contradiction | skip
  · cases e
    obtain ⟨v, ev, rv⟩ := reps1 r rfl
    rw [ev, rv.int_inv]
    exact .inl ⟨_, rfl, q _ (.i _)⟩
  · cases e
    obtain ⟨v, ev, rv⟩ := reps1 r rfl
    rw [ev, rv.bl_inv]
    exact .inr ⟨_, rfl, q _ (.i _)⟩
theorem f_str1 : BfOk W X .str1 (fun xs H Q => ∃ i, xs = [.int i] ∧ i.natAbs.log2 < 1920 ∧ Q (.str (toString i)) H) := by
  intro S h H vs args z Q i r e q
  unfold evBF at e
  split at e <;> first | contradiction | skip
  split at e
  · cases e
    obtain ⟨v, ev, rv⟩ := reps1 r rfl
    rw [ev, rv.int_inv]
    exact ⟨_, rfl, by assumption, q _ (.s _)⟩
  · cases e
theorem f_all : BfOk W X .all (rAll X.K) := by
  intro S h H vs args z Q i r e q
  unfold evBF at e
  split at e <;> first | contradiction | skip
  obtain ⟨xs, e1, e2⟩ := Option.bind_eq_some_iff.mp e
  obtain ⟨b, e6, e3⟩ := Option.map_eq_some_iff.mp e2
  subst e3
  obtain ⟨v, ev, rv⟩ := reps1 r rfl
  obtain ⟨p, us, rfl, hq, r2⟩ := asL_rep i rv e1
  obtain ⟨bs, e4, e5⟩ := bools_of r2 e6
  subst e4
  subst e5
  exact ⟨p, bs, ev, hq, q _ (.b _)⟩
theorem f_any : BfOk W X .any (rAny X.K) := by
  intro S h H vs args z Q i r e q
  unfold evBF at e
  split at e <;> first | contradiction | skip
  obtain ⟨xs, e1, e2⟩ := Option.bind_eq_some_iff.mp e
  obtain ⟨b, e6, e3⟩ := Option.map_eq_some_iff.mp e2
  subst e3
  obtain ⟨v, ev, rv⟩ := reps1 r rfl
  obtain ⟨p, us, rfl, hq, r2⟩ := asL_rep i rv e1
  obtain ⟨bs, e4, e5⟩ := boolsA_of r2 e6
  subst e4
  subst e5
  exact ⟨p, bs, ev, hq, q _ (.b _)⟩
theorem f_sum : BfOk W X .sum (rSum X.K) := by
  intro S h H vs args z Q i r e q
  unfold evBF at e
  split at e <;> first | contradiction | skip
  obtain ⟨xs, e1, e2⟩ := Option.bind_eq_some_iff.mp e
  obtain ⟨b, e6, e3⟩ := Option.map_eq_some_iff.mp e2
  subst e3
  obtain ⟨v, ev, rv⟩ := reps1 r rfl
  obtain ⟨p, us, rfl, hq, r2⟩ := asL_rep i rv e1
  obtain ⟨bs, e4, e5⟩ := ints_of' r2 e6
  subst e4
  subst e5
  exact ⟨p, bs, ev, hq, q _ (.i _)⟩
/-- the name of a built-in def -/
def bfName : BF → Str
  | .len => "len"
  | .abs => "abs"
  | .min2 => "min"
  | .max2 => "max"
  | .max3 => "max"
  | .int1 => "int"
  | .str1 => "str"
  | .all => "all"
  | .any => "any"
  | .sum => "sum"
theorem x_bf {bf : BF} {e0 : Expr} (c : Ct W X ev k wx) (hg : Gl X (bfName bf)) (ha : PAK X (e0 :: es) [] (rd W X wx (rVs W X) (evEs ev cs))) : PE X (.Call (.Name (bfName bf) p) (e0 :: es) [] pos) (rd W X wx (rV W X) (evE ev (.bf bf cs))) := by
  have hm : X.mg (bfName bf) = none := c.kf.blt _ (by cases bf <;> decide)
  have hc := c.calm
  cases bf with
  | len => exact x_bfB f_len call_len hg hm (by first | rfl | decide +kernel) (by decide) (by decide) ha
  | abs => exact x_bfB f_abs call_abs hg hm (by first | rfl | decide +kernel) (by decide) (by decide) ha
  | min2 => exact x_bfB f_min2 (call_min2 hc) hg hm (by first | rfl | decide +kernel) (by decide) (by decide) ha
  | max2 => exact x_bfB f_max2 (call_max2 hc) hg hm (by first | rfl | decide +kernel) (by decide) (by decide) ha
  | max3 => exact x_bfB f_max3 (call_max3Nu hc) hg hm (by first | rfl | decide +kernel) (by decide) (by decide) ha
  | int1 => exact x_bfT f_int1 call_int1 hg hm (by first | rfl | decide +kernel) (by decide) (by decide) ha
  | str1 => exact x_bfT f_str1 call_str_int hg hm (by first | rfl | decide +kernel) (by decide) (by decide) ha
  | all => exact x_bfB f_all (cr_all hc) hg hm (by first | rfl | decide +kernel) (by decide) (by decide) ha
  | any => exact x_bfB f_any (cr_any hc) hg hm (by first | rfl | decide +kernel) (by decide) (by decide) ha
  | sum => exact x_bfB f_sum (cr_sum hc) hg hm (by first | rfl | decide +kernel) (by decide) (by decide) ha
end
end U
namespace U
open PySem PySem.Spec L2 PyProof.Rows
section
variable {W : Wd} {X : Cx} {wx : WX} {ev : Ev} {k : Nat} {es : List Expr} {kws : List Keyword} {cs : Es} {x : Str} {p pos apos : Pos} {Q : VK} {B : Base} {S S' : Syn} {fs fs' : FS} {σ : L2.St} {H : Hp} {f : Nat} {vs : List V} {args : List PV} {o : Expr} {m : Nat} {a b e e2 e3 : E} {ea eb ec : Expr} {t u : T} {h : Hb}
/-- a list that is tracked -/
theorem asL_rd {y : PV} {xs : List PV} {v : V} (i : HInv W X.K X.w S h H) (r : Rep W X.K X.w S H v y) (e : asL h y = some xs) : ∃ p vs, v = .ref p ∧ Rd H p (.lst vs) ∧ Reps W X.K X.w S H vs xs := by
  cases y with
  | lst ys =>
    cases e
    obtain ⟨p, vs, rfl, f, h, r⟩ := r.lst_inv
    exact ⟨p, vs, rfl, h, r⟩
  | obj a =>
    obtain ⟨p, rfl, hp⟩ := r.obj_inv
    obtain ⟨u, hu, ob⟩ := i.at hp
    unfold asL at e
    simp only [hu] at e
    cases ob with
    | lst h r => cases e; exact ⟨p, _, rfl, .inl h, r⟩
    | dic h k r => cases e
    | ins h n l r => cases e
  | _ => cases e
theorem rd_lst {pins : List (Addr × Obj)} {s : Shared} {l : Addr} {xs : List V} (I : Inv X pins σ H s) (hH : Rd H l (.lst xs)) : xs.length ≤ sizeLine ∧ ∃ (its : List Value) (n : Nat), Vals xs its ∧ xs.length = its.length ∧ s.heap.get? l = some { cls := .type "list", data := .seq its.toArray n } := by
  obtain ⟨z, its, n, r, e⟩ := hH.ok I.hok
  exact ⟨z, its, n, r, r.length, e⟩
def rExt : V → List V → Hp → VK → Prop := fun x vs H Q => ∃ l b xs zs, x = .ref l ∧ vs = [.ref b] ∧ H l = some (.lst xs) ∧ Rd H b (.lst zs) ∧ xs.length + zs.length ≤ sizeLine ∧ Q .non (upd H l (.lst (xs ++ zs)))
theorem mt_ext : MtM X "list.extend" rExt := by
  intro pins s σ H x vs v us Q I rx rv h
  obtain ⟨l, b, xs, zs, rfl, rfl, hH, hB, hz, q⟩ := h
  cases rx
  obtain ⟨u, rfl, ru⟩ := rv.one
  cases ru
  obtain ⟨z, its, n, r, hl, e⟩ := I.lstM hH
  obtain ⟨z2, its2, n2, r2, hl2, e2⟩ := rd_lst I hB
  have hsz : its.toArray.size + its2.toArray.size ≤ sizeLine := by rw [List.size_toArray, List.size_toArray]; omega
  have hlong : ¬ (!its.toArray.isEmpty && Builtin.List.listTooLong (its.toArray.size + its2.toArray.size)) = true := by
    rw [notLongL hsz, Bool.and_false]
    exact Bool.false_ne_true
  refine call_meets F.slot_list_extend ⟨_, e, rfl⟩ F.entry_list_extend (F.args_list_extend_2 _ _)
    (AutoSeq1.list_extend_list_list_0 l its.toArray n b its2.toArray n2 hlong (by rw [List.size_toArray]; omega) (by omega)) ⟨e, e2, ?_⟩
  refine ⟨.non, _, I.lset (its' := its ++ its2) hH e (by simp) (r.append r2) ?_, rfl, q⟩
  rw [List.length_append]
  omega
/-- the methods that change a list, by what stands at it -/
def rMM (m : MM) : V → List V → Hp → VK → Prop := match m with
  | .append => rAppend
  | .extend => rExt
  | .pop => rPop
  | _ => fun _ _ _ _ => False
theorem mm_rd {m : MM} {p : Addr} {ys : List V} {xs : List PV} {z : PV} {zs : List PV} (i : HInv W X.K X.w S h H) (hp : H p = some (.lst ys)) (r : Reps W X.K X.w S H ys xs) (ra : Reps W X.K X.w S H vs args) (e : evMM m h xs args = some (z, zs))
    (q : ∀ w us, Rep W X.K X.w S H w z → Reps W X.K X.w S H us zs → Q w (upd H p (.lst us))) : rMM m (.ref p) vs H Q := by
  unfold evMM at e
  split at e
  · rename_i y
    split at e
    · cases e
      obtain ⟨v, ev, rv⟩ := reps1 ra rfl
      exact ⟨p, ys, v, rfl, ev, hp, by rw [r.len]; assumption, q _ _ .n (r.app (.cons rv .nil))⟩
    · cases e
  · rename_i y
    obtain ⟨us, e1, e2⟩ := Option.bind_eq_some_iff.mp e
    split at e2
    · cases e2
      obtain ⟨v, ev, rv⟩ := reps1 ra rfl
      obtain ⟨b, ws, rfl, hb, r2⟩ := asL_rd i rv e1
      exact ⟨p, b, ys, ws, rfl, ev, hp, hb, by rw [r.len, r2.len]; assumption, q _ _ .n (r.app r2)⟩
    · cases e2
  · obtain ⟨y, e1, e2⟩ := Option.map_eq_some_iff.mp e
    cases e2
    cases ra
    obtain ⟨v, e3, rv⟩ := r.get _ e1
    exact ⟨p, ys, v, rfl, rfl, hp, by rw [r.len]; exact e3, q _ _ rv r.dropLast⟩
  · cases e
def mmName : MM → Str
  | .append => "append"
  | .extend => "extend"
  | .pop => "pop"
  | .popi => "pop"
  | .insert => "insert"
  | .clear => "clear"
theorem mm_call1 {mm : MM} {e0 : Expr} {to : TE} {t : TA} (hm : mm = .append ∨ mm = .extend) (ho : PE X o to) (hb : notCall0 o = true) (hl : (apos.endLine == pos.line) = true) (hn : noStars (e0 :: es) = true) (hn2 : es.length < 20) (ha : PA X (e0 :: es) t) :
    PE X (.Call (.Attribute o (mmName mm) apos) (e0 :: es) [] pos) (tBM X.K "list" (rMM mm) to t) := by
  have n := Bool.and_eq_true_iff.mp (show (notStar e0 && noStars es) = true from hn)
  have few : ((backTo pos (starEach (e0 :: es) X.env)).all (fun x => !x.1) && (backToKw pos (keywordEach [] X.env)).all (fun x => x.1.isSome) && decide ((e0 :: es).length + ([] : List Keyword).length + (if ([] : List Keyword).isEmpty then 0 else 1) < 30)) = true := by
    rw [star_all pos X.env _ hn]
    show (true && true && decide ((e0 :: es).length + 0 + 0 < 30)) = true
    rw [decide_eq_true (by rw [List.length_cons]; omega)]
    rfl
  rcases hm with e | e
  · subst e
    exact pe_bm F.plainAttrs_list F.slot_list_append F.type_list_append mt_append ho ha (base_of hb) few hl (star_cons n.1) (star_none _ _ es n.2)
  · subst e
    exact pe_bm F.plainAttrs_list F.slot_list_extend F.type_list_extend mt_ext ho ha (base_of hb) few hl (star_cons n.1) (star_none _ _ es n.2)
theorem mm_call0 {to : TE} (ho : PE X o to) (hb : notCall0 o = true) (hl : (apos.endLine == pos.line) = true) : PE X (.Call (.Attribute o "pop" apos) [] [] pos) (tBM0 X.K "list" rPop to) :=
  pe_bm0 F.plainAttrs_list F.slot_list_pop F.type_list_pop mt_pop ho (base_of hb) hl
theorem isLst_rep {y : PV} {v : V} (i : HInv W X.K X.w S h H) (r : Rep W X.K X.w S H v y) (e : isLst h y = true) : tyV X.K "list" v H := by
  cases y with
  | obj a =>
    obtain ⟨p, rfl, hp⟩ := r.obj_inv
    obtain ⟨u, hu, ob⟩ := i.at hp
    unfold isLst at e
    simp only [hu] at e
    cases ob with
    | lst h r => exact .inl ⟨rfl, _, SqL.of h⟩
    | dic h k r => cases e
    | ins h n l r => cases e
  | _ => cases e
/-- the change of a list of the own heap -/
theorem mutO_rd {mm : MM} {y : PV} {v : V} (s : Sim W X.K X.w B S fs σ H) (r : Rep W X.K X.w S H v y) (ra : Reps W X.K X.w S H vs args) (h : Pst W X wx (rV W X) σ B S H Q (mutO mm y args fs)) : rMM mm v vs H Q := by
  cases y with
  | obj a =>
    obtain ⟨p, rfl, hp⟩ := r.obj_inv
    obtain ⟨u, hu, ob⟩ := s.hi.at hp
    unfold mutO at h
    simp only [hu] at h
    cases ob with
    | dic h' k r => exact h.elim
    | ins h' n l r => exact h.elim
    | @lst ys xs h' r' =>
      cases ee : evMM mm fs.hp xs args with
      | none => simp only [ee] at h; exact h.elim
      | some zz =>
        obtain ⟨z, zs⟩ := zz
        simp only [ee] at h
        refine mm_rd s.hi h' r' ra ee fun w us rw ru => ?_
        have e0 : Ext S H S (upd H p (.lst us)) := ⟨fun _ f => f, fun b f => upd_ne fun z => s.hi.dis p (List.mem_of_getElem? hp) (z ▸ f), fun _ _ h => h⟩
        obtain ⟨s2, e2⟩ := s.put (u := .lst zs) (o := .lst us) hp (.lst upd_same (ru.ext e0))
        exact h _ _ _ s2 e2 (rw.ext e2)
  | _ => exact h.elim
/-- .. of one that a slot owns -/
theorem mutS_rd {mm : MM} {i : Nat} {v : V} (s : Sim W X.K X.w B S fs σ H) (hv : σ[i]? = some (some v)) (ra : Reps W X.K X.w S H vs args) (h : Pst W X wx (rV W X) σ B S H Q (mutS mm i args fs)) : rMM mm v vs H Q := by
  unfold mutS at h
  split at h
  · rename_i xs e
    have q := s.sl i _ _ e hv
    cases q with
    | @lst p ys _ ow hp r' =>
      cases ee : evMM mm fs.hp xs args with
      | none => simp only [ee] at h; exact h.elim
      | some zz =>
        obtain ⟨z, zs⟩ := zz
        simp only [ee] at h
        refine mm_rd s.hi hp r' ra ee fun w us rw ru => ?_
        have e0 : Ext S H S (upd H p (.lst us)) := ⟨fun _ f => f, fun b f => upd_ne fun z => ow.1 (z ▸ f), fun _ _ h => h⟩
        obtain ⟨s2, e2⟩ := s.putOwn (q1 := .lst zs) (o := .lst us) e rfl hv (.lst ow upd_same (ru.ext e0))
        exact h _ _ _ s2 e2 (rw.ext e2)
  · exact h.elim
theorem x_mm1 {mm : MM} {e0 : Expr} (hm : mm = .append ∨ mm = .extend) (ho : PE X o (rd W X wx (rV W X) (evE ev a))) (hb : notCall0 o = true) (hl : (apos.endLine == pos.line) = true) (hn2 : es.length < 20) (ha : PAK X (e0 :: es) [] (rd W X wx (rVs W X) (evEs ev cs))) :
    PE X (.Call (.Attribute o (mmName mm) apos) (e0 :: es) [] pos) (rd W X wx (rV W X) (evE ev (.mm mm a cs))) :=
  PE.mono (mm_call1 hm ho hb hl ha.1 hn2 ha.pa.2) fun σ H Q ⟨B, S, fs, s, h⟩ => Pst.go s (show Pst W X wx (rV W X) σ B S H Q ((evE ev a fs).bind fun x fs => match isLst fs.hp x with
    | true => (evEs ev cs fs).bind fun vs fs => mutO mm x vs fs
    | false => .no) from h) fun v H1 S1 fs1 y s1 e1 r1 h1 => by
      cases el : isLst fs1.hp y with
      | false => simp only [el] at h1; exact h1.elim
      | true =>
        simp only [el] at h1
        refine ⟨isLst_rep s1.hi r1 el, Pst.go s1 h1 fun vs H2 S2 fs2 args s2 e2 r2 h2 => ?_⟩
        exact mutO_rd s2 (Rep.ext e2 r1) r2 h2
theorem slLst_rep {i : Nat} {v : V} (s : Sim W X.K X.w B S fs σ H) (hv : σ[i]? = some (some v)) (e : slLst fs i = true) : tyV X.K "list" v H := by
  unfold slLst at e
  split at e
  · rename_i xs e'
    have q := s.sl i _ _ e' hv
    cases q with
    | lst ow hp r => exact .inl ⟨rfl, _, SqL.of hp⟩
  · cases e
theorem slLst_at {i : Nat} (s : Sim W X.K X.w B S fs σ H) (e : slLst fs i = true) : ∃ v, σ[i]? = some (some v) := by
  unfold slLst at e
  split at e
  · rename_i xs e'
    obtain ⟨p, u, h1, _, _⟩ := s.own_at e' rfl
    exact ⟨_, h1⟩
  · cases e
theorem x_mo1 {mm : MM} {i : Nat} {e0 : Expr} (hm : mm = .append ∨ mm = .extend) (hN : X.N[i]? = some x) (hv : Vis X.env.scope x) (hd : (x == ("__debug__" : Str)) = false) (hcd : (x == ("__classdict__" : Str)) = false) (hl : (apos.endLine == pos.line) = true) (hn2 : es.length < 20)
    (ha : PAK X (e0 :: es) [] (rd W X wx (rVs W X) (evEs ev cs))) : PE X (.Call (.Attribute (.Name x p) (mmName mm) apos) (e0 :: es) [] pos) (rd W X wx (rV W X) (evE ev (.mo mm i cs))) :=
  PE.mono (mm_call1 hm (pe_var (pos := p) hN hv hd hcd) rfl hl ha.1 hn2 ha.pa.2) fun σ H Q ⟨B, S, fs, s, h⟩ => by
    have h : Pst W X wx (rV W X) σ B S H Q (match slLst fs i with
      | true => (evEs ev cs fs).bind fun vs fs => mutS mm i vs fs
      | false => .no) := h
    cases el : slLst fs i with
    | false => simp only [el] at h; exact h.elim
    | true =>
      simp only [el] at h
      obtain ⟨v, hv⟩ := slLst_at s el
      exact ⟨v, hv, slLst_rep s hv el, Pst.go s h fun vs H2 S2 fs2 args s2 e2 r2 h2 => mutS_rd s2 hv r2 h2⟩
theorem x_pop (ho : PE X o (rd W X wx (rV W X) (evE ev a))) (hb : notCall0 o = true) (hl : (apos.endLine == pos.line) = true) : PE X (.Call (.Attribute o "pop" apos) [] [] pos) (rd W X wx (rV W X) (evE ev (.mm .pop a .nil))) :=
  PE.mono (mm_call0 ho hb hl) fun σ H Q ⟨B, S, fs, s, h⟩ => Pst.go s (show Pst W X wx (rV W X) σ B S H Q ((evE ev a fs).bind fun x fs => match isLst fs.hp x with
    | true => (evEs ev .nil fs).bind fun vs fs => mutO .pop x vs fs
    | false => .no) from h) fun v H1 S1 fs1 y s1 e1 r1 h1 => by
      cases el : isLst fs1.hp y with
      | false => simp only [el] at h1; exact h1.elim
      | true =>
        simp only [el] at h1
        have h1 : Pst W X wx (rV W X) σ B S1 H1 Q (mutO .pop y [] fs1) := h1
        exact ⟨isLst_rep s1.hi r1 el, mutO_rd s1 r1 .nil h1⟩
end
end U
namespace U
open PySem PySem.Spec L2 PyProof.Rows
section
variable {W : Wd} {X : Cx} {wx : WX} {ev : Ev} {k : Nat} {es : List Expr} {kws : List Keyword} {cs : Es} {x : Str} {p pos apos : Pos} {Q : VK} {B : Base} {S S' : Syn} {fs fs' : FS} {σ : L2.St} {H : Hp} {f : Nat} {vs : List V} {args : List PV} {o : Expr} {m : Nat} {a b e e2 e3 : E} {ea eb ec : Expr} {t u : T} {h : Hb}
def cntV (x : V) : List V → Int
  | [] => 0
  | y :: ys => (if eqV y x then 1 else 0) + cntV x ys
theorem cnt_eq {x : V} : ∀ {xs : List V} {us : List Value}, Vals xs us → xs.all flatV = true → ((us.countP (eqU x) : Nat) : Int) = cntV x xs
  | _, _, .nil, _ => rfl
  | y :: xs, u :: us, .cons r t, f => by
    rw [List.all_cons, Bool.and_eq_true] at f
    rw [List.countP_cons, eqU_of r f.1]
    show _ = (if eqV y x then (1 : Int) else 0) + cntV x xs
    rw [← cnt_eq t f.2]
    cases eqV y x <;> simp <;> omega
def rCnt (K : PySem.W.Frag) : V → List V → Hp → VK → Prop := fun x xs H Q => ∃ (p : Addr) (ys : List V) (y : V), x = .ref p ∧ xs = [y] ∧ SqL K H p ys ∧ flatV y = true ∧ ys.all flatV = true ∧ Q (.int (cntV y ys)) H
theorem mt_cnt : MtR X "list.count" (rCnt X.K) := by
  intro pins s σ H x xs v us Q I rx rxs h
  obtain ⟨a, ys, y, rfl, rfl, hs, fy, fys, q⟩ := h
  cases rx
  obtain ⟨u, rfl, ru⟩ := rxs.one
  obtain ⟨its, rv, ⟨⟨cls, dd, data, sl⟩, n, ho, hc, hdn, hd⟩, hlen⟩ := I.list hs
  simp only at hc hd
  subst hc hd
  refine call_meets PySem.F.slot_list_count ⟨_, ho, rfl⟩ PySem.F.entry_list_count (PySem.F.args_list_count_2 _ _)
    (SeqAt.list_countAt a its.toArray n dd sl u (eqU y)) ⟨ho, fun u' hu' => mem_eqAt ru fy rv fys u' (by simpa using hu'), ?_⟩
  refine ⟨.int (cntV y ys), H, I.tok _, ⟨s.toks, ?_⟩, q⟩
  show Value.int (((its.toArray.toList.countP (eqU y) : Nat)) : Int) s.toks = Value.int (cntV y ys) s.toks
  rw [← cnt_eq rv fys]
theorem cnt_rep : ∀ {vs : List V} {xs : List PV}, Reps W X.K X.w S H vs xs → xs.all flat = true → ∀ {x : PV} {v : V}, flatOf x = some v → cntV v vs = cntL x xs ∧ vs.all flatV = true
  | _, _, .nil, _, _, _, _ => ⟨rfl, rfl⟩
  | _, _, .cons h r, f, x, v, e => by
    rw [List.all_cons, Bool.and_eq_true] at f
    obtain ⟨a, b⟩ := h.flat f.1
    obtain ⟨c, d⟩ := cnt_rep r f.2 e
    refine ⟨?_, by rw [List.all_cons, b, d]; rfl⟩
    unfold cntV cntL
    rw [eqv_flat a e, c]
theorem bm_few {e0 : Expr} (hn : noStars (e0 :: es) = true) (hn2 : es.length < 20) : ((backTo pos (starEach (e0 :: es) X.env)).all (fun x => !x.1) && (backToKw pos (keywordEach [] X.env)).all (fun x => x.1.isSome) && decide ((e0 :: es).length + ([] : List Keyword).length + (if ([] : List Keyword).isEmpty then 0 else 1) < 30)) = true := by
  rw [star_all pos X.env _ hn]
  show (true && true && decide ((e0 :: es).length + 0 + 0 < 30)) = true
  rw [decide_eq_true (by rw [List.length_cons]; omega)]
  rfl
theorem x_count {e0 : Expr} (ho : PE X o (rd W X wx (rV W X) (evE ev a))) (hb : notCall0 o = true) (hl : (apos.endLine == pos.line) = true) (ha : PAK X [e0] [] (rd W X wx (rVs W X) (evEs ev cs))) :
    PE X (.Call (.Attribute o "count" apos) [e0] [] pos) (rd W X wx (rV W X) (evE ev (.bm .count a cs))) := by
  have n := Bool.and_eq_true_iff.mp (show (notStar e0 && noStars []) = true from ha.1)
  refine PE.mono (pe_bm F.plainAttrs_list F.slot_list_count F.type_list_count mt_cnt ho ha.pa.2 (base_of hb) (bm_few ha.1 (by decide)) hl (star_cons n.1) (star_none _ _ _ n.2)) fun σ H Q ⟨B, S, fs, s, h⟩ => Pst.go s (show Pst W X wx (rV W X) σ B S H Q ((evE ev a fs).bind fun x fs => match bmOk .count fs.hp x with
    | true => (evEs ev cs fs).bind fun vs fs => .opt fs (evBM .count fs.hp x vs)
    | false => .no) from h) fun v H1 S1 fs1 y s1 e1 r1 h1 => ?_
  cases el : bmOk .count fs1.hp y with
  | false => simp only [el] at h1; exact h1.elim
  | true =>
    simp only [el] at h1
    obtain ⟨xs0, ex0⟩ := Option.isSome_iff_exists.mp (show (asL fs1.hp y).isSome = true from el)
    obtain ⟨p0, us0, e0', hq0, _⟩ := asL_rep s1.hi r1 ex0
    refine ⟨by rw [e0']; exact .inl ⟨rfl, _, hq0⟩, Pst.go s1 h1 fun vs H2 S2 fs2 args s2 e2 r2 h2 => ?_⟩
    obtain ⟨z, ez, h3⟩ := h2.opt
    unfold evBM at ez
    split at ez
    · rename_i y'
      obtain ⟨xs, e3, e4⟩ := Option.bind_eq_some_iff.mp ez
      split at e4
      · rename_i fl
        cases e4
        obtain ⟨f1, f2⟩ := Bool.and_eq_true_iff.mp fl
        obtain ⟨w, ew, rw'⟩ := reps1 r2 rfl
        obtain ⟨p1, us, rfl, hq, r3⟩ := asL_rep s2.hi (Rep.ext e2 r1) e3
        obtain ⟨g1, g2⟩ := rw'.flat f1
        obtain ⟨k1, k2⟩ := cnt_rep r3 f2 g1
        refine ⟨p1, us, w, rfl, ew, hq, g2, k2, ?_⟩
        rw [k1]
        exact h3.here s2 (.i _)
      · cases e4
    · contradiction
    · cases ez
theorem x_join {e0 : Expr} (ho : PE X o (rd W X wx (rV W X) (evE ev a))) (hb : notCall0 o = true) (hl : (apos.endLine == pos.line) = true) (ha : PAK X [e0] [] (rd W X wx (rVs W X) (evEs ev cs))) :
    PE X (.Call (.Attribute o "join" apos) [e0] [] pos) (rd W X wx (rV W X) (evE ev (.bm .join a cs))) := by
  have n := Bool.and_eq_true_iff.mp (show (notStar e0 && noStars []) = true from ha.1)
  refine PE.mono (pe_bm F.plainAttrs_str F.slot_str_join F.type_str_join mt_join ho ha.pa.2 (base_of hb) (bm_few ha.1 (by decide)) hl (star_cons n.1) (star_none _ _ _ n.2)) fun σ H Q ⟨B, S, fs, s, h⟩ => Pst.go s (show Pst W X wx (rV W X) σ B S H Q ((evE ev a fs).bind fun x fs => match bmOk .join fs.hp x with
    | true => (evEs ev cs fs).bind fun vs fs => .opt fs (evBM .join fs.hp x vs)
    | false => .no) from h) fun v H1 S1 fs1 y s1 e1 r1 h1 => ?_
  cases y with
  | str sep =>
    have r1 : Rep W X.K X.w S1 H1 v (.str sep) := r1
    have ev' := r1.str_inv
    subst ev'
    have h1 : Pst W X wx (rV W X) σ B S1 H1 Q ((evEs ev cs fs1).bind fun vs fs => .opt fs (evBM .join fs.hp (.str sep) vs)) := h1
    refine ⟨rfl, Pst.go s1 h1 fun vs H2 S2 fs2 args s2 e2 r2 h2 => ?_⟩
    obtain ⟨z, ez, h3⟩ := h2.opt
    unfold evBM at ez
    split at ez
    · contradiction
    · rename_i y' _
      obtain ⟨xs, e3, e4⟩ := Option.bind_eq_some_iff.mp (show (asS fs2.hp y').bind (fun ys => (txts ys).bind fun ts => if (ts.map Str.length).sum + ts.length * sep.length ≤ 16777216 then some (PV.str (Txt.join sep ts)) else none) = some z from ez)
      obtain ⟨ts, e5, e6⟩ := Option.bind_eq_some_iff.mp e4
      split at e6
      · rename_i lim
        cases e6
        obtain ⟨w, ew, rw'⟩ := reps1 r2 rfl
        obtain ⟨p1, us, rfl, hq, r3⟩ := asS_rep s2.hi rw' e3
        have et := txts_of r3 e5
        subst et
        exact ⟨sep, p1, ts, rfl, ew, hq, lim, h3.here s2 (.s _)⟩
      · cases e6
    · cases ez
  | _ => exact h1.elim
theorem tyOf_rep {y : PV} {v : V} {n : String} (i : HInv W X.K X.w S h H) (r : Rep W X.K X.w S H v y) (e : tyOf h y = some n) : TyX X.K H v (.type n) ∧ n ∈ tynames := by
  cases y with
  | non => cases e; rw [r.non_inv]; exact ⟨.base .non, by decide⟩
  | bl b => cases e; rw [r.bl_inv]; exact ⟨.base (.bl b), by decide⟩
  | int i => cases e; rw [r.int_inv]; exact ⟨.base (.int i), by decide⟩
  | str z => cases e; rw [r.str_inv]; exact ⟨.base (.str z), by decide⟩
  | tup xs =>
    cases e
    obtain ⟨p, vs, rfl, hq, _⟩ := r.tup_inv
    refine ⟨?_, by decide⟩
    rcases hq with (hq | ⟨o, hq⟩) | ⟨o, its, n, e, hc, hd, _, hv⟩
    · exact .base (.tup hq)
    · exact .fTuple hq
    · exact .kTuple e hc
  | lst xs =>
    cases e
    obtain ⟨p, vs, rfl, f, hq, _⟩ := r.lst_inv
    refine ⟨?_, by decide⟩
    rcases hq with hq | ⟨o, hq⟩
    · exact .base (.lst hq)
    · exact .base (.frz hq)
  | dic ks xs =>
    cases e
    cases r with
    | sc r => cases r
    | dic f h k r => exact ⟨.base (.dK h), by decide⟩
  | obj a =>
    obtain ⟨p, rfl, hp⟩ := r.obj_inv
    obtain ⟨u, hu, ob⟩ := i.at hp
    unfold tyOf at e
    simp only [hu] at e
    cases ob with
    | lst h r => cases e; exact ⟨.base (.lst h), by decide⟩
    | dic h k r => cases e; exact ⟨.base (.dK h), by decide⟩
    | ins h n l r => cases e
  | _ => cases e
theorem clOf_ty (c : Ct W X ev k wx) {y : PV} {v : V} {cc : Nat} {cl : Cl} (i : HInv W X.K X.w S h H) (r : Rep W X.K X.w S H v y) (e : clOf h y = some cc) (g : W.G.cls cc = some cl) (ex : cl.exc = false) : TyX X.K H v (.ref (ca W X.K cc)) := by
  obtain ⟨a, dx, fl, cl', rfl, h1, g', _⟩ := clOf_rep i r e
  obtain ⟨q1, q2, q3, q4⟩ := c.kf.isx cc cl g ex
  exact .base (.ins h1 (c.kf.cls cc cl g ex) q1 q2 q3 q4)
def tyV_ (W : Wd) (K : PySem.W.Frag) : TyR → V
  | .cls c => .ref (ca W K c)
  | .ty n => .ty n
def tyU (W : Wd) (K : PySem.W.Frag) : TyR → Value
  | .cls c => .ref (ca W K c)
  | .ty n => .type n
theorem tyClsV (W : Wd) (K : PySem.W.Frag) (r : TyR) : ClsV (tyV_ W K r) (tyU W K r) := by
  cases r with
  | cls c => exact .own _
  | ty n => exact .ty n
/-- the types that texts name -/
def tyOk : TyR → Bool
  | .cls _ => true
  | .ty n => tynames.contains n
theorem kit_two {t n : String} (ht : t ∈ tynames) (hn : n ∈ tynames) {K : PySem.W.Frag} : PySem.W.kitOne K (.type t) (.type n) = some (t == n || (t == "bool" && n == "int")) := by
  refine kit_ty ?_
  have : ∀ t ∈ tynames, ∀ n ∈ tynames, kitB t n = some (t == n || (t == "bool" && n == "int")) := by decide +kernel
  exact this t ht n hn
theorem ty_cl {y : PV} {t : String} (e : tyOf h y = some t) : clOf h y = none := by
  cases y with
  | obj a =>
    have e : (match h[a]? with
      | some (.lst _) => some "list"
      | some (.dic _) => some "dict"
      | _ => none) = some t := e
    show (match h[a]? with
      | some (.ins c _) => some c
      | _ => none) = none
    cases q : h[a]? with
    | none => rfl
    | some u =>
      rw [q] at e
      cases u with
      | ins c fs => cases e
      | lst xs => rfl
      | dic xs => rfl
  | _ => first
    | rfl
    | cases e
theorem one_rd (c : Ct W X ev k wx) {y : PV} {v : V} {r : TyR} {b : Bool} (i : HInv W X.K X.w S h H) (rr : Rep W X.K X.w S H v y) (e : isOne W.G h y r = some b) :
    ∃ t, TyX X.K H v t ∧ (∀ r b, tyOk r = true → isOne W.G h y r = some b → PySem.W.kitOne X.K t (tyU W X.K r) = some b) := by
  cases et : tyOf h y with
  | some t =>
    obtain ⟨t1, t2⟩ := tyOf_rep i rr et
    refine ⟨_, t1, fun r b ho e => ?_⟩
    cases r with
    | ty n =>
      unfold isOne at e
      simp only [et] at e
      cases e
      exact kit_two t2 (by simpa [tyOk] using ho)
    | cls d =>
      unfold isOne at e
      cases gd : W.G.cls d with
      | none => simp only [gd] at e; cases e
      | some dl =>
        simp only [gd, ty_cl et, et, Option.map_some] at e
        cases e
        exact c.kf.isb t d dl t2 gd
  | none =>
    cases ec : clOf h y with
    | none =>
      unfold isOne at e
      cases r with
      | ty n => simp only [et, ec] at e; cases e
      | cls d =>
        cases gd : W.G.cls d with
        | none => simp only [gd] at e; cases e
        | some dl => simp only [gd, ec, et] at e; cases e
    | some cc =>
      obtain ⟨_, _, _, cl, _, _, g, _⟩ := clOf_rep i rr ec
      have nx : cl.exc = false := by
        cases q : cl.exc with
        | false => rfl
        | true =>
          unfold isOne at e
          cases r with
          | ty n => simp only [et, ec, g, q, if_true] at e; cases e
          | cls d =>
            cases gd : W.G.cls d with
            | none => simp only [gd] at e; cases e
            | some dl => simp only [gd, ec, g, q, if_true] at e; cases e
      refine ⟨_, clOf_ty c i rr ec g nx, fun r b ho e => ?_⟩
      cases r with
      | ty n =>
        unfold isOne at e
        simp only [et, ec, g, nx, Bool.false_eq_true, if_false] at e
        cases e
        exact c.kf.ist cc cl n g nx (by simpa [tyOk] using ho)
      | cls d =>
        unfold isOne at e
        cases gd : W.G.cls d with
        | none => simp only [gd] at e; cases e
        | some dl =>
          simp only [gd, ec, g, nx, Bool.false_eq_true, if_false] at e
          cases e
          exact c.kf.isc cc cl d dl g nx gd
/-- what stands for a class in the text -/
def clsName (W : Wd) : TyR → Str
  | .cls c => W.cn c
  | .ty n => n
def tyPl (W : Wd) : TyR → Prop
  | .cls d => (W.G.cls d).isSome = true
  | .ty n => n ∈ ["bool", "int", "str", "tuple", "list", "dict"]
theorem bt_ok : ∀ n ∈ ["bool", "int", "str", "tuple", "list", "dict"], Str.ofString n ∈ bnames ∧ bootBuiltins (Str.ofString n) = some (.type n) ∧ Str.ofString n ≠ "__name__" := by
  intro n h
  simp only [List.mem_cons, List.not_mem_nil, or_false] at h
  rcases h with rfl | rfl | rfl | rfl | rfl | rfl <;> exact ⟨by decide, by first | rfl | decide +kernel, by decide⟩
theorem x_clsN (c : Ct W X ev k wx) {r : TyR} (hr : tyPl W r) (hg : Gl X (clsName W r)) (hd : (clsName W r == ("__debug__" : Str)) = false) : PE X (.Name (clsName W r) p) (tC (tyV_ W X.K r)) := by
  cases r with
  | cls d =>
    obtain ⟨cl, g⟩ := Option.isSome_iff_exists.mp (show (W.G.cls d).isSome = true from hr)
    exact pe_glob (v := .ref (ca W X.K d)) hg (c.kf.gcl d cl g) rfl hd
  | ty n =>
    obtain ⟨b1, b2, b3⟩ := bt_ok n hr
    exact pe_bltn (v := .ty n) (u := .type n) hg (c.kf.blt _ b1) b2 rfl b3 hd
def tyGood (W : Wd) : TyR → Bool
  | .cls d => (W.G.cls d).isSome
  | .ty n => ["bool", "int", "str", "tuple", "list", "dict"].contains n
theorem tyGood_ok {r : TyR} (h : tyGood W r = true) : tyOk r = true ∧ tyPl W r := by
  cases r with
  | cls d => exact ⟨rfl, h⟩
  | ty n =>
    have h : n ∈ ["bool", "int", "str", "tuple", "list", "dict"] := by simpa [tyGood] using h
    refine ⟨?_, h⟩
    simp only [List.mem_cons, List.not_mem_nil, or_false] at h
    rcases h with rfl | rfl | rfl | rfl | rfl | rfl <;> decide
/-- isinstance(x, C) -/
theorem x_isi1 {r : TyR} {q1 : Pos} (c : Ct W X ev k wx) (hr : tyGood W r = true) (hg0 : Gl X "isinstance") (hg : Gl X (clsName W r)) (hd : (clsName W r == ("__debug__" : Str)) = false) (ha : PE X ea (rd W X wx (rV W X) (evE ev a))) (hn : notStar ea = true) :
    PE X (.Call (.Name "isinstance" p) [ea, .Name (clsName W r) q1] [] pos) (rd W X wx (rV W X) (evE ev (.isi a [r]))) := by
  obtain ⟨k1, k2⟩ := tyGood_ok hr
  have pa : PA X [ea, .Name (clsName W r) q1] (tCons _ (tCons _ tNil)) := pa_cons ha (pa_cons (x_clsN c k2 hg hd) pa_nil) (star_cons hn)
  refine PE.mono (pe_callB call_isi hg0 (c.kf.blt _ (by decide)) (by first | rfl | decide +kernel) pa (by decide) (by decide) (star_cons hn) (star_none _ _ _ rfl)) fun σ H Q ⟨B, S, fs, s, h⟩ => Pst.go s (show Pst W X wx (rV W X) σ B S H Q ((evE ev a fs).bind fun x fs => R.opt fs ((isAny ev.G fs.hp x [r]).map .bl)) from h) fun v H1 S1 fs1 y s1 e1 r1 h1 => ?_
  obtain ⟨z, ez, h2⟩ := h1.opt
  obtain ⟨b, eb, ez⟩ := Option.map_eq_some_iff.mp ez
  subst ez
  rw [c.g] at eb
  have eo : isOne W.G fs1.hp y r = some b := by
    unfold isAny at eb
    split at eb
    · cases eb; assumption
    · rename_i e'
      have : isAny W.G fs1.hp y [] = some b := eb
      cases this
      exact e'
    · cases eb
  obtain ⟨t, t1, t2⟩ := one_rd c s1.hi r1 eo
  exact ⟨v, tyV_ W X.K r, t, tyU W X.K r, b, rfl, tyClsV W X.K r, t1, t2 r b k1 eo, h2.here s1 (.b b)⟩
theorem any_rd (c : Ct W X ev k wx) {y : PV} {t : Value} (h2 : ∀ r b, tyOk r = true → isOne W.G h y r = some b → PySem.W.kitOne X.K t (tyU W X.K r) = some b) : ∀ (rs : List TyR) (b : Bool), rs.all (tyGood W) = true → isAny W.G h y rs = some b → PySem.W.kitAny X.K t (rs.map (tyU W X.K)) = some b
  | [], b, _, e => by cases e; rfl
  | r :: rs, b, g, e => by
    rw [List.all_cons, Bool.and_eq_true] at g
    unfold isAny at e
    split at e
    · cases e
      exact kitAny_cons (h2 r true (tyGood_ok g.1).1 (by assumption)) (fun z => by cases z) fun _ => rfl
    · exact kitAny_cons (h2 r false (tyGood_ok g.1).1 (by assumption)) (fun _ => any_rd c h2 rs b g.2 e) fun z => by cases z
    · cases e
theorem names_pa (c : Ct W X ev k wx) {rs : List TyR} {ns : List Expr} (h : ∀ (i : Nat) (r : TyR), rs[i]? = some r → ∃ q, ns[i]? = some (Expr.Name (clsName W r) q) ∧ tyGood W r = true ∧ Gl X (clsName W r) ∧ (clsName W r == ("__debug__" : Str)) = false) (hl : ns.length = rs.length) :
    ∃ t, PA X ns t ∧ ∀ σ H Q, Q (rs.map (tyV_ W X.K)) H → t σ H Q := by
  induction rs generalizing ns with
  | nil =>
    cases ns with
    | nil => exact ⟨tNil, pa_nil, fun σ H Q q => q⟩
    | cons _ _ => cases hl
  | cons r rs ih =>
    cases ns with
    | nil => cases hl
    | cons n ns =>
      obtain ⟨q, e, g, hg, hd⟩ := h 0 r (by rfl)
      cases e
      obtain ⟨t, pa, ht⟩ := ih (ns := ns) (fun i r e => h (i + 1) r e) (by simpa using hl)
      exact ⟨tCons _ t, pa_cons (x_clsN c (tyGood_ok g).2 hg hd) pa (star_cons rfl), fun σ H Q q => ht σ H _ q⟩
theorem paired_cls (W : Wd) (K : PySem.W.Frag) : ∀ rs : List TyR, Paired ClsV (rs.map (tyV_ W K)) (rs.map (tyU W K))
  | [] => .nil
  | r :: rs => .cons (tyClsV W K r) (paired_cls W K rs)
theorem TyX.upd_ {v : V} {t : Value} {q : Addr} {u : HO} (n : H q = none) (h : TyX X.K H v t) : TyX X.K (upd H q u) v t := by
  have at' : ∀ {b : Addr} {o : HO}, H b = some o → upd H q u b = some o := fun {b o} e => by rw [upd_ne (fun z => by rw [z, n] at e; cases e)]; exact e
  cases h with
  | base h => cases h with
    | non => exact .base .non
    | bl x => exact .base (.bl x)
    | int i => exact .base (.int i)
    | str x => exact .base (.str x)
    | flt x => exact .base (.flt x)
    | lst e => exact .base (.lst (at' e))
    | frz e => exact .base (.frz (at' e))
    | tup e => exact .base (.tup (at' e))
    | dK e => exact .base (.dK (at' e))
    | dT e => exact .base (.dT (at' e))
    | ins e a b c d f => exact .base (.ins (at' e) a b c d f)
  | byt b => exact .byt b
  | set e => exact .set (at' e)
  | kList e c => exact .kList e c
  | kTuple e c => exact .kTuple e c
  | kDict e c => exact .kDict e c
  | fTuple e => exact .fTuple (at' e)
  | fDict e => exact .fDict (at' e)
/-- isinstance(x, (C, D)) -/
theorem x_isiT {rs : List TyR} {ns : List Expr} {j : Nat} {q1 : Pos} (c : Ct W X ev k wx) (hr : rs ≠ []) (hz : rs.length ≤ 20) (hg0 : Gl X "isinstance") (hh : ∀ (i : Nat) (r : TyR), rs[i]? = some r → ∃ q, ns[i]? = some (Expr.Name (clsName W r) q) ∧ tyGood W r = true ∧ Gl X (clsName W r) ∧ (clsName W r == ("__debug__" : Str)) = false) (hl : ns.length = rs.length)
    (ha : PE X ea (rd W X wx (rV W X) (evE ev a))) (hn : notStar ea = true) : PE X (.Call (.Name "isinstance" p) [ea, .Tuple ns j q1] [] pos) (rd W X wx (rV W X) (evE ev (.isi a rs))) := by
  obtain ⟨tn, pan, htn⟩ := names_pa c hh hl
  have hall : rs.all (tyGood W) = true := List.all_eq_true.mpr fun r m => by
    obtain ⟨i, hi, e⟩ := List.mem_iff_getElem.mp m
    obtain ⟨_, _, g, _⟩ := hh i r (by rw [List.getElem?_eq_getElem hi, e])
    exact g
  have pa : PA X [ea, .Tuple ns j q1] (tCons _ (tCons _ tNil)) := pa_cons ha (pa_cons (pe_tup pan) pa_nil (star_cons rfl)) (star_cons hn)
  refine PE.mono (pe_callB call_isiT hg0 (c.kf.blt _ (by decide)) (by first | rfl | decide +kernel) pa (by decide) (by decide) (star_cons hn) (star_none _ _ _ rfl)) fun σ H Q ⟨B, S, fs, s, h⟩ => Pst.go s (show Pst W X wx (rV W X) σ B S H Q ((evE ev a fs).bind fun x fs => R.opt fs ((isAny ev.G fs.hp x rs).map .bl)) from h) fun v H1 S1 fs1 y s1 e1 r1 h1 => ?_
  obtain ⟨z, ez, h2⟩ := h1.opt
  obtain ⟨b, eb, ez⟩ := Option.map_eq_some_iff.mp ez
  subst ez
  rw [c.g] at eb
  refine htn σ H1 _ ⟨by rw [List.length_map, sizeLine_eq]; omega, fun q hq => ?_⟩
  obtain ⟨s2, e2, l2⟩ := s1.lay (o := .tup (rs.map (tyV_ W X.K))) hq
  cases rs with
  | nil => exact absurd rfl hr
  | cons r0 rs =>
    have eo : ∃ b0, isOne W.G fs1.hp y r0 = some b0 := by
      unfold isAny at eb
      split at eb
      · exact ⟨_, by assumption⟩
      · exact ⟨_, by assumption⟩
      · cases eb
    obtain ⟨b0, eo⟩ := eo
    obtain ⟨t, t1, t2⟩ := one_rd c s1.hi r1 eo
    exact ⟨v, q, _, t, _, b, rfl, upd_same, paired_cls W X.K _, TyX.upd_ hq t1, any_rd c t2 _ b hall eb, h2 _ _ _ s2 e2 (.b b)⟩
end
end U
namespace U
open PySem PySem.Spec L2 PyProof.Rows
section
variable {W : Wd} {X : Cx} {wx : WX} {ev : Ev} {k : Nat} {es : List Expr} {kws : List Keyword} {cs : Es} {x : Str} {p pos apos p2 : Pos} {Q : VK} {B : Base} {S S' : Syn} {fs fs' : FS} {σ : L2.St} {H : Hp} {f : Nat} {vs : List V} {args : List PV} {o : Expr} {m : Nat} {a b e e2 e3 : E} {ea eb ec : Expr} {t u : T} {h : Hb} {lo hi : Option Expr} {ol oh : O}
abbrev rOI : RRel (Option Int) (Option Int) := rId
theorem z_n : PO X none (rd W X wx rOI (evO ev .n)) := PO.mono po_none fun σ H Q ⟨B, S, fs, s, h⟩ => Pst.here (a := none) h s rfl
theorem z_e (h : PE X ea (rd W X wx (rV W X) (evE ev a))) : PO X (some ea) (rd W X wx rOI (evO ev (.e a))) :=
  PO.mono (po_some h) fun σ H Q ⟨B, S, fs, s, h⟩ => Pst.go s (show Pst W X wx rOI σ B S H Q ((evE ev a fs).bind fun x fs => match x with
    | .int i => .ok (some i) fs
    | _ => .no) from h) fun v H1 S1 fs1 y s1 e1 r1 h1 => by
      cases y with
      | int i =>
        have r1 : Rep W X.K X.w S1 H1 v (.int i) := r1
        exact ⟨i, r1.int_inv, Pst.here (a := some i) h1 s1 rfl⟩
      | _ => exact h1.elim
theorem Reps.cut {xs : List PV} (r : Reps W X.K X.w S H vs xs) (i j : Option Int) : Reps W X.K X.w S H (cutV vs i j) (cut xs i j) := by
  unfold cutV U.cut
  rw [r.len]
  exact (r.drop _).take _
theorem cut_whole {α : Type} {xs : List α} {i j : Option Int} (h : HT.sIx xs.length 0 i = 0 ∧ HT.sIx xs.length xs.length j = xs.length) : cut xs i j = xs := by
  unfold cut
  rw [h.1, h.2, List.drop_zero, Nat.sub_zero, List.take_length]
theorem x_sl (he : PE X ea (rd W X wx (rV W X) (evE ev a))) (hl : PO X lo (rd W X wx rOI (evO ev ol))) (hu : PO X hi (rd W X wx rOI (evO ev oh))) : PE X (.Subscript ea (.Slice lo hi none p2) p) (rd W X wx (rV W X) (evE ev (.sl a ol oh))) :=
  PE.mono (pe_slice (sl_tupA.or sl_str) he hl hu) fun σ H Q ⟨B, S, fs, s, h⟩ => Pst.go s (show Pst W X wx (rV W X) σ B S H Q ((evE ev a fs).bind fun x fs => (evO ev ol fs).bind fun i fs => (evO ev oh fs).bind fun j fs => R.opt fs (evSl x i j)) from h) fun v H1 S1 fs1 y s1 e1 r1 h1 =>
    Pst.go s1 h1 fun i H2 S2 fs2 i' s2 e2 r2 h2 => Pst.go s2 h2 fun j H3 S3 fs3 j' s3 e3 r3 h3 => by
      cases (show i = i' from r2)
      cases (show j = j' from r3)
      obtain ⟨z, ez, h4⟩ := h3.opt
      have r1' : Rep W X.K X.w S3 H3 v y := (Rep.ext e2 r1).ext e3
      have key : ∀ {y : PV}, Rep W X.K X.w S3 H3 v y → evSl y i j = some z → (rSlA X.K v i j H3 Q ∨ rSlS v i j H3 Q) := fun {y} r1 ez => by
       unfold evSl at ez
       split at ez
       · rename_i zs
         split at ez
         · cases ez
           rw [r1.str_inv]
           exact .inr ⟨zs, rfl, by assumption, h4.here s3 (.s _)⟩
         · cases ez
       · rename_i xs
         cases ez
         obtain ⟨q, us, rfl, hq, r⟩ := r1.tup_inv
         refine .inl ⟨q, us, rfl, hq, fun w => ?_, fun w r0 hr0 => ?_⟩
         · rw [r.len] at w
           rw [cut_whole w] at h4
           exact h4.here s3 r1
         · exact h4.out.tup s3 hr0 (r.cut i j)
       · cases ez
      exact key r1' ez
theorem xl_sl (he : PE X ea (rd W X wx (rV W X) (evE ev a))) (hl : PO X lo (rd W X wx rOI (evO ev ol))) (hu : PO X hi (rd W X wx rOI (evO ev oh))) : PE X (.Subscript ea (.Slice lo hi none p2) p) (rd W X wx (rL W X) (evL ev (.sl a ol oh))) :=
  PE.mono (pe_slice sl_list he hl hu) fun σ H Q ⟨B, S, fs, s, h⟩ => Pst.go s (show Pst W X wx (rL W X) σ B S H Q ((evE ev a fs).bind fun x fs => (evO ev ol fs).bind fun i fs => (evO ev oh fs).bind fun j fs => R.opt fs ((asL fs.hp x).map fun xs => cut xs i j)) from h) fun v H1 S1 fs1 y s1 e1 r1 h1 =>
    Pst.go s1 h1 fun i H2 S2 fs2 i' s2 e2 r2 h2 => Pst.go s2 h2 fun j H3 S3 fs3 j' s3 e3 r3 h3 => by
      cases (show i = i' from r2)
      cases (show j = j' from r3)
      obtain ⟨z, ez, h4⟩ := h3.opt
      have r1 : Rep W X.K X.w S3 H3 v y := (Rep.ext e2 r1).ext e3
      obtain ⟨xs, e5, e6⟩ := Option.map_eq_some_iff.mp ez
      subst e6
      obtain ⟨q, us, rfl, hq, r⟩ := asL_rep s3.hi r1 e5
      refine ⟨q, us, rfl, hq, fun w hw => ?_⟩
      obtain ⟨s4, e4, l4⟩ := s3.lay (o := .lst (cutV us i j)) hw
      exact h4 _ _ _ s4 e4 ⟨w, _, rfl, l4, upd_same, (r.cut i j).ext e4⟩
/-- a new list from a rule -/
theorem newL {xs : List PV} {us : List V} (h4 : Pst W X wx (rL W X) σ B S H Q (.ok xs fs)) (s : Sim W X.K X.w B S fs σ H) (r : Reps W X.K X.w S H us xs) (w : Addr) (hw : H w = none) : Q (.ref w) (upd H w (.lst us)) := by
  obtain ⟨s4, e4, l4⟩ := s.lay (o := .lst us) hw
  exact h4 _ _ _ s4 e4 ⟨w, us, rfl, l4, upd_same, r.ext e4⟩
def rOf (X : Cx) : List V → Hp → VK → Prop := fun xs H Q => (∃ p ys, xs = [.ref p] ∧ (SqL X.K H p ys ∨ SqT X.K H p ys) ∧ ∀ l, H l = none → Q (.ref l) (upd H l (.lst ys))) ∨
  (∃ (a : Addr) (kvs : List (Key × V)), xs = [.ref a] ∧ Rd H a (.dK kvs) ∧ ∀ p, H p = none → Q (.ref p) (upd H p (.lst (kvs.map fun kv => kV kv.1))))
theorem keys_rep : ∀ {us : List (Key × V)} {kvs : List (Key × PV)}, us.map (·.1) = kvs.map (·.1) → Reps W X.K X.w S H (us.map fun kv => kV kv.1) (kvs.map fun kv => keyV kv.1)
  | [], [], _ => .nil
  | [], _ :: _, e => by cases e
  | _ :: _, [], e => by cases e
  | u :: us, q :: kvs, e => by
    have e1 : u.1 = q.1 := (List.cons.inj e).1
    refine .cons ?_ (keys_rep (List.cons.inj e).2)
    show Rep W X.K X.w S H (kV u.1) (keyV q.1)
    rw [e1]
    cases q.1 with
    | inl i => exact .i i
    | inr z => exact .s z
theorem xl_of (c : Ct W X ev k wx) (hg : Gl X "list") (ha : PE X ea (rd W X wx (rV W X) (evE ev a))) (hn : notStar ea = true) : PE X (.Call (.Name "list" p) [ea] [] pos) (rd W X wx (rL W X) (evL ev (.of a))) := by
  have pa : PA X [ea] (tCons _ tNil) := pa_cons ha pa_nil (star_cons hn)
  refine PE.mono (pe_callTy (r := rOf X) (CallR.or call_list_of (call_listD c.calm)) hg (c.kf.blt _ (by decide)) (by first | rfl | decide +kernel) pa (by decide) (by decide) (star_cons hn) (star_none _ _ _ rfl)) fun σ H Q ⟨B, S, fs, s, h⟩ => Pst.go s (show Pst W X wx (rL W X) σ B S H Q ((evE ev a fs).bind fun x fs => R.opt fs (asOf fs.hp x)) from h) fun v H1 S1 fs1 y s1 e1 r1 h1 => ?_
  obtain ⟨z, ez, h2⟩ := h1.opt
  unfold asOf at ez
  split at ez
  · rename_i xs e
    cases ez
    obtain ⟨q, us, rfl, hq, r⟩ := asS_rep s1.hi r1 e
    exact .inl ⟨q, us, rfl, hq, newL h2 s1 r⟩
  · obtain ⟨kvs, e, e'⟩ := Option.map_eq_some_iff.mp ez
    subst e'
    obtain ⟨q, us, rfl, hq, n, r⟩ := asD_rep s1.hi r1 e
    exact .inr ⟨q, us, rfl, .inl hq, newL h2 s1 (keys_rep n)⟩
theorem xd_of (c : Ct W X ev k wx) (hg : Gl X "dict") (ha : PE X ea (rd W X wx (rV W X) (evE ev a))) (hn : notStar ea = true) : PE X (.Call (.Name "dict" p) [ea] [] pos) (rd W X wx (rD W X) (evD ev (.of a))) := by
  have pa : PA X [ea] (tCons _ tNil) := pa_cons ha pa_nil (star_cons hn)
  refine PE.mono (pe_callTy call_dictD hg (c.kf.blt _ (by decide)) (by first | rfl | decide +kernel) pa (by decide) (by decide) (star_cons hn) (star_none _ _ _ rfl)) fun σ H Q ⟨B, S, fs, s, h⟩ => Pst.go s (show Pst W X wx (rD W X) σ B S H Q ((evE ev a fs).bind fun x fs => R.opt fs (asD fs.hp x)) from h) fun v H1 S1 fs1 y s1 e1 r1 h1 => ?_
  obtain ⟨z, ez, h2⟩ := h1.opt
  obtain ⟨q, us, rfl, hq, n, r⟩ := asD_rep s1.hi r1 ez
  refine ⟨q, us, rfl, .inl hq, fun w hw => ?_⟩
  obtain ⟨s4, e4, l4⟩ := s1.lay (o := .dK us) hw
  exact h2 _ _ _ s4 e4 ⟨w, us, rfl, l4, upd_same, n, r.ext e4⟩
def rCatL : R2 := fun x y H Q => ∃ l b xs zs, x = .ref l ∧ y = .ref b ∧ Rd H l (.lst xs) ∧ Rd H b (.lst zs) ∧ xs.length + zs.length ≤ sizeLine ∧ ∀ p, H p = none → Q (.ref p) (upd H p (.lst (xs ++ zs)))
theorem op_catL : OpR X (binaryOp .Add) rCatL := by
  intro pins s σ H x y v u Q I rx ry h
  obtain ⟨l, b, xs, zs, rfl, rfl, hH, hB, hz, q⟩ := h
  cases rx
  cases ry
  obtain ⟨z, its, n, r, hl, e⟩ := rd_lst I hH
  obtain ⟨z2, its2, n2, r2, hl2, e2⟩ := rd_lst I hB
  refine PySem.P.add_list e e2 ?_ (by rw [List.size_toArray, List.size_toArray]; omega)
  have ea : its.toArray ++ its2.toArray = (its ++ its2).toArray := by simp
  rw [ea]
  exact ⟨.ref _, _, I.lnew (t' := s.toks) (r.append r2) (by rw [List.length_append]; omega), rfl, q _ I.fresh⟩
theorem xl_cat (ha : PE X ea (rd W X wx (rV W X) (evE ev a))) (hb : PE X eb (rd W X wx (rV W X) (evE ev b))) : PE X (.BinOp ea .Add eb p) (rd W X wx (rL W X) (evL ev (.cat a b))) :=
  PE.mono (pe_op op_catL ha hb) fun σ H Q ⟨B, S, fs, s, h⟩ => Pst.go s (show Pst W X wx (rL W X) σ B S H Q ((evE ev a fs).bind fun x fs => (evE ev b fs).bind fun y fs => R.opt fs ((asL fs.hp x).bind fun xs => (asL fs.hp y).bind fun ys => if xs.length + ys.length ≤ sizeLine then some (xs ++ ys) else none)) from h) fun v H1 S1 fs1 y s1 e1 r1 h1 =>
    Pst.go s1 h1 fun u H2 S2 fs2 z s2 e2 r2 h2 => by
      obtain ⟨w', ew, h3⟩ := h2.opt
      obtain ⟨xs, x1, ew⟩ := Option.bind_eq_some_iff.mp ew
      obtain ⟨ys, x2, ew⟩ := Option.bind_eq_some_iff.mp ew
      split at ew
      · cases ew
        obtain ⟨q1, us, rfl, hq1, rr1⟩ := asL_rd s2.hi (Rep.ext e2 r1) x1
        obtain ⟨q2, ws, rfl, hq2, rr2⟩ := asL_rd s2.hi r2 x2
        exact ⟨q1, q2, us, ws, rfl, rfl, hq1, hq2, by rw [rr1.len, rr2.len]; assumption, newL h3 s2 (rr1.app rr2)⟩
      · cases ew
/-- a walk over items that stand -/
structure Wk (W : Wd) (X : Cx) (J : It) (S0 : Syn) (H0 : Hp) (xs : List PV) : Prop where
  go : ∀ S H i, Ext S0 H0 S H → i < xs.length → J.go i H
  yld : ∀ S H i v H', Ext S0 H0 S H → i < xs.length → J.yld i H v H' → H' = H ∧ ∃ x, xs[i]? = some x ∧ Rep W X.K X.w S H v x
  stop : ∀ S H i, Ext S0 H0 S H → xs.length ≤ i → J.stop i H
def rJ (W : Wd) (X : Cx) : RRel It (List PV) := fun _ S _ _ H J xs => Wk W X J S H xs
theorem wk_rng {lo : Int} : ∀ {n : Nat}, Wk W X (Itr lo n) S H (range0 n lo) := by
  have len : ∀ (n : Nat) (lo : Int), (range0 n lo).length = n := fun n => by
    induction n with
    | zero => intro lo; rfl
    | succ n ih => intro lo; exact congrArg Nat.succ (ih (lo + 1))
  have at_ : ∀ (n : Nat) (lo : Int) (i : Nat), i < n → (range0 n lo)[i]? = some (.int (lo + i)) := fun n => by
    induction n with
    | zero => intro lo i h; exact absurd h (by omega)
    | succ n ih =>
      intro lo i h
      cases i with
      | zero =>
        show some (PV.int lo) = _
        rw [show lo + ((0 : Nat) : Int) = lo by simp]
      | succ i =>
        show (range0 n (lo + 1))[i]? = _
        rw [ih (lo + 1) i (by omega)]
        congr 2
        push_cast
        omega
  intro n
  refine ⟨fun S H i _ h => by rw [len] at h; exact h, fun S H i v H' _ l y => ?_, fun S H i _ h => by rw [len] at h; exact h⟩
  obtain ⟨e1, e2⟩ := y
  rw [len] at l
  exact ⟨e1, _, at_ n lo i l, by rw [e2]; exact .i _⟩
theorem reps_str : ∀ {l : List Nat} {i : Nat} {c : Nat}, l[i]? = some c → (chars l)[i]? = some (.str ⟨#[c]⟩)
  | [], _, _, h => by cases h
  | _ :: _, 0, _, h => by cases h; rfl
  | _ :: r, i + 1, _, h => reps_str (l := r) h
theorem len_chars : ∀ l : List Nat, (chars l).length = l.length
  | [] => rfl
  | _ :: r => congrArg Nat.succ (len_chars r)
theorem wk_str {z : Str} : Wk W X (Its z) S H (chars z.cps.toList) := by
  refine ⟨fun S H i _ h => ?_, fun S H i v H' _ l y => ?_, fun S H i _ h => ?_⟩
  · rw [len_chars] at h
    show i < z.cps.size
    simpa using h
  · obtain ⟨e1, c, e2, e3⟩ := y
    exact ⟨e1, _, reps_str (by rw [Array.getElem?_toList]; exact e2), by rw [e3]; exact .s _⟩
  · rw [len_chars] at h
    show z.cps.size ≤ i
    simpa using h
theorem tup_walk {v : V} {xs : List PV} (r : Rep W X.K X.w S H v (.tup xs)) : ∃ q us, v = .ref q ∧ ∀ S' H', Ext S H S' H' → SqT X.K H' q us ∧ Reps W X.K X.w S' H' us xs := by
  cases r with
  | sc r => cases r
  | tup f h1 r1 => exact ⟨_, _, rfl, fun S' H' e => ⟨SqT.of ((e.h _ f).trans h1), r1.ext e⟩⟩
  | ktup h1 r1 => exact ⟨_, _, rfl, fun S' H' e => ⟨h1 _, r1.ext e⟩⟩
theorem lst_walk {v : V} {xs : List PV} (r : Rep W X.K X.w S H v (.lst xs)) : ∃ q us, v = .ref q ∧ ∀ S' H', Ext S H S' H' → SqL X.K H' q us ∧ Reps W X.K X.w S' H' us xs := by
  cases r with
  | sc r => cases r
  | lst f h1 r1 => exact ⟨_, _, rfl, fun S' H' e => ⟨.inl (rd_at h1 (e.h _ f)), r1.ext e⟩⟩
theorem wk_itl {q : Addr} {us : List V} {xs : List PV} (h : ∀ S' H', Ext S H S' H' → SqL X.K H' q us ∧ Reps W X.K X.w S' H' us xs) : Wk W X (Itl X.K q) S H xs := by
  refine ⟨fun S' H' i e l => ?_, fun S' H' i v H2 e l y => ?_, fun S' H' i e l => ?_⟩
  · obtain ⟨h1, h2⟩ := h S' H' e
    obtain ⟨v, hv, _⟩ := h2.get i (List.getElem?_eq_getElem l)
    exact ⟨us, v, h1, hv⟩
  · obtain ⟨h1, h2⟩ := h S' H' e
    obtain ⟨v', hv, rv⟩ := h2.get i (List.getElem?_eq_getElem l)
    obtain ⟨y1, y2⟩ := y
    have := y2 us h1
    rw [hv] at this
    cases this
    exact ⟨y1, _, List.getElem?_eq_getElem l, rv⟩
  · obtain ⟨h1, h2⟩ := h S' H' e
    exact ⟨us, h1, by rw [h2.len]; exact l⟩
theorem wk_itt {q : Addr} {us : List V} {xs : List PV} (h : ∀ S' H', Ext S H S' H' → SqT X.K H' q us ∧ Reps W X.K X.w S' H' us xs) : Wk W X (Itt X.K q) S H xs := by
  refine ⟨fun S' H' i e l => ?_, fun S' H' i v H2 e l y => ?_, fun S' H' i e l => ?_⟩
  · obtain ⟨h1, h2⟩ := h S' H' e
    obtain ⟨v, hv, _⟩ := h2.get i (List.getElem?_eq_getElem l)
    exact ⟨us, v, h1, hv⟩
  · obtain ⟨h1, h2⟩ := h S' H' e
    obtain ⟨v', hv, rv⟩ := h2.get i (List.getElem?_eq_getElem l)
    obtain ⟨y1, y2⟩ := y
    have := y2 us h1
    rw [hv] at this
    cases this
    exact ⟨y1, _, List.getElem?_eq_getElem l, rv⟩
  · obtain ⟨h1, h2⟩ := h S' H' e
    exact ⟨us, h1, by rw [h2.len]; exact l⟩
theorem rev_at {α : Type} {l : List α} {i : Nat} (h : i < l.length) : l.reverse[i]? = l[l.length - 1 - i]? := by
  rw [List.getElem?_reverse h]
theorem wk_itv {q : Addr} {us : List V} {xs : List PV} (h : ∀ S' H', Ext S H S' H' → SqL X.K H' q us ∧ Reps W X.K X.w S' H' us xs) (hl : us.length = xs.length) : Wk W X (Itv X.K q us.length) S H xs.reverse := by
  refine ⟨fun S' H' i e l => ?_, fun S' H' i v H2 e l y => ?_, fun S' H' i e l => ?_⟩
  · obtain ⟨h1, h2⟩ := h S' H' e
    rw [List.length_reverse, ← hl] at l
    exact ⟨l, us, us[us.length - 1 - i], h1, List.getElem?_eq_getElem _⟩
  · obtain ⟨h1, h2⟩ := h S' H' e
    rw [List.length_reverse] at l
    rw [rev_at l]
    have l2 : xs.length - 1 - i < xs.length := by omega
    obtain ⟨v', hv, rv⟩ := h2.get (xs.length - 1 - i) (List.getElem?_eq_getElem l2)
    obtain ⟨y1, y2⟩ := y
    have := y2 us h1
    rw [hl, hv] at this
    cases this
    exact ⟨y1, _, List.getElem?_eq_getElem l2, rv⟩
  · rw [List.length_reverse] at l
    show us.length ≤ i
    omega
theorem wk_itvT {q : Addr} {us : List V} {xs : List PV} (h : ∀ S' H', Ext S H S' H' → SqT X.K H' q us ∧ Reps W X.K X.w S' H' us xs) (hl : us.length = xs.length) : Wk W X (RT.ItvT X.K q us.length) S H xs.reverse := by
  refine ⟨fun S' H' i e l => ?_, fun S' H' i v H2 e l y => ?_, fun S' H' i e l => ?_⟩
  · obtain ⟨h1, h2⟩ := h S' H' e
    rw [List.length_reverse, ← hl] at l
    exact ⟨l, us, us[us.length - 1 - i], h1, List.getElem?_eq_getElem _⟩
  · obtain ⟨h1, h2⟩ := h S' H' e
    rw [List.length_reverse] at l
    rw [rev_at l]
    have l2 : xs.length - 1 - i < xs.length := by omega
    obtain ⟨v', hv, rv⟩ := h2.get (xs.length - 1 - i) (List.getElem?_eq_getElem l2)
    obtain ⟨y1, y2⟩ := y
    have := y2 us h1
    rw [hl, hv] at this
    cases this
    exact ⟨y1, _, List.getElem?_eq_getElem l2, rv⟩
  · rw [List.length_reverse] at l
    show us.length ≤ i
    omega
abbrev rdI (W : Wd) (X : Cx) (wx : WX) (r : FS → R FS (List PV)) : TI := rd W X wx (rJ W X) r
variable {tg : Expr}
/-- a list, a tuple or a text, walked -/
def iAny (K : PySem.W.Frag) (te : TE) : TI := fun σ H R => te σ H fun x H1 => (∃ a, x = .ref a ∧ (∃ xs, SqL K H1 a xs) ∧ R (Itl K a) H1) ∨ (∃ a, x = .ref a ∧ (∃ xs, SqT K H1 a xs) ∧ R (Itt K a) H1) ∨ (∃ z, x = .str z ∧ R (Its z) H1)
theorem pi_any {l : Expr} {tl : TE} (hl : PE X l tl) : PI X tg l (iAny X.K tl) := by
  refine ⟨fun pins s σ H R I h => ?_⟩
  refine thn (hl.run pins s σ H _ I h) fun v s1 ⟨x, H1, I1, r1, q1⟩ => ?_
  rcases q1 with ⟨a, e, ⟨xs, hq⟩, q⟩ | ⟨a, e, ⟨xs, hq⟩, q⟩ | ⟨z, e, q⟩
  · subst e
    cases r1
    obtain ⟨its, rv, p, hz⟩ := I1.list hq
    refine wpAny_pyIter_list p.isList ?_
    refine ⟨s1.heap.objs.size, [s1.heap.objs.size], _, _, H1, rfl, I1.kept (t' := s1.toks) fun b o e => Heap.get?_push_of_some _ e, turn_list a _, ⟨_, Heap.get?_push_size _ rfl, rfl, rfl⟩, fun b hb => ?_, q⟩
    have e : b = s1.heap.objs.size := by simpa using hb
    subst e
    exact I1.fpOk (Nat.le_refl _) (I1.hok.fresh (Nat.le_refl _))
  · subst e
    cases r1
    obtain ⟨its, rv, p, hz⟩ := I1.tuple hq
    refine wpAny_pyIter_tuple (show s1.heap.IsTuple a its.toArray from p) ?_
    refine ⟨s1.heap.objs.size, [s1.heap.objs.size], _, _, H1, rfl, I1.kept (t' := s1.toks) fun b o e => Heap.get?_push_of_some _ e, turn_tuple a _, ⟨_, Heap.get?_push_size _ rfl, rfl, rfl⟩, fun b hb => ?_, q⟩
    have e : b = s1.heap.objs.size := by simpa using hb
    subst e
    exact I1.fpOk (Nat.le_refl _) (I1.hok.fresh (Nat.le_refl _))
  · subst e
    obtain ⟨t, rfl⟩ := r1
    cases ha : z.cps.all (· < 128)
    · exact wpAny_pyIter_wide ha (pi_one (tk := s1.toks) I1 _ (turn_str _ z t "str_iterator" (.inr rfl)) ⟨_, Heap.get?_push_size _ rfl, rfl, rfl⟩ q)
    · exact wpAny_pyIter_ascii ha (pi_one (tk := s1.toks) I1 _ (turn_str _ z t "str_ascii_iterator" (.inl rfl)) ⟨_, Heap.get?_push_size _ rfl, rfl, rfl⟩ q)
theorem PI.mono {iter : Expr} {t t' : TI} (h : PI X tg iter t) (k : ∀ σ H R, t' σ H R → t σ H R) : PI X tg iter t' := ⟨fun pins s σ H Q I q => h.run pins s σ H Q I (k _ _ _ q)⟩
theorem i_v (h : PE X ea (rd W X wx (rV W X) (evE ev a))) : PI X tg ea (rdI W X wx (evI ev (.v a))) :=
  PI.mono (pi_any h) fun σ H R ⟨B, S, fs, s, h⟩ => Pst.go s (show Pst W X wx (rJ W X) σ B S H R ((evE ev a fs).bind fun x fs => .opt fs (asIt x)) from h) fun v H1 S1 fs1 y s1 e1 r1 h1 => by
    obtain ⟨z, ez, h2⟩ := h1.opt
    have r1 : Rep W X.K X.w S1 H1 v y := r1
    cases y with
    | str t =>
      cases ez
      exact .inr (.inr ⟨t, r1.str_inv, h2.here s1 wk_str⟩)
    | tup xs =>
      cases ez
      obtain ⟨q, us, rfl, hq⟩ := tup_walk r1
      exact .inr (.inl ⟨q, rfl, ⟨us, (hq _ _ .refl).1⟩, h2.here s1 (wk_itt hq)⟩)
    | lst xs =>
      cases ez
      obtain ⟨q, us, rfl, hq⟩ := lst_walk r1
      exact .inl ⟨q, rfl, ⟨us, (hq _ _ .refl).1⟩, h2.here s1 (wk_itl hq)⟩
    | _ => cases ez
theorem i_rev (c : Ct W X ev k wx) (hg : Gl X "reversed") (h : PE X ea (rd W X wx (rV W X) (evE ev a))) (hn : notStar ea = true) : PI X tg (.Call (.Name "reversed" p) [ea] [] pos) (rdI W X wx (evI ev (.rev a))) :=
  PI.mono (RT.pi_revA hg (c.kf.blt _ (by decide)) h (star_cons hn)) fun σ H R ⟨B, S, fs, s, h⟩ => Pst.go s (show Pst W X wx (rJ W X) σ B S H R ((evE ev a fs).bind fun x fs => .opt fs ((asRv x).map List.reverse)) from h) fun v H1 S1 fs1 y s1 e1 r1 h1 => by
    obtain ⟨z, ez, h2⟩ := h1.opt
    have r1 : Rep W X.K X.w S1 H1 v y := r1
    cases y with
    | tup xs =>
      cases ez
      obtain ⟨q, us, rfl, hq⟩ := tup_walk r1
      exact ⟨q, us, rfl, .inr ⟨(hq _ _ .refl).1, h2.here s1 (wk_itvT hq (hq _ _ .refl).2.len)⟩⟩
    | lst xs =>
      cases ez
      obtain ⟨q, us, rfl, hq⟩ := lst_walk r1
      exact ⟨q, us, rfl, .inl ⟨(hq _ _ .refl).1, h2.here s1 (wk_itv hq (hq _ _ .refl).2.len)⟩⟩
    | _ => cases ez
theorem i_rng1 (c : Ct W X ev k wx) (hg : Gl X "range") (h : PE X ea (rd W X wx (rV W X) (evE ev a))) (hn : notStar ea = true) : PI X tg (.Call (.Name "range" p) [ea] [] pos) (rdI W X wx (evI ev (.rng1 a))) :=
  PI.mono (pi_range1 hg (c.kf.blt _ (by decide)) (pa_cons h pa_nil (star_cons hn)) (star_cons hn)) fun σ H R ⟨B, S, fs, s, h⟩ => Pst.go s (show Pst W X wx (rJ W X) σ B S H R ((evE ev a fs).bind fun x fs => match x with
    | .int n => if -(2 ^ 62) ≤ n ∧ n < 2 ^ 62 then .ok (range0 n.toNat 0) fs else .no
    | _ => .no) from h) fun v H1 S1 fs1 y s1 e1 r1 h1 => by
      have r1 : Rep W X.K X.w S1 H1 v y := r1
      cases y with
      | int n =>
        have h1 : Pst W X wx (rJ W X) σ B S1 H1 R (if -(2 ^ 62) ≤ n ∧ n < 2 ^ 62 then .ok (range0 n.toNat 0) fs1 else .no) := h1
        by_cases l : -(2 ^ 62) ≤ n ∧ n < 2 ^ 62
        · rw [if_pos l] at h1
          rw [r1.int_inv]
          exact ⟨n, rfl, l.1, l.2, h1.here s1 wk_rng⟩
        · rw [if_neg l] at h1; exact h1.elim
      | _ => exact h1.elim
theorem i_rng2 (c : Ct W X ev k wx) (hg : Gl X "range") (h : PE X ea (rd W X wx (rV W X) (evE ev a))) (hn : notStar ea = true) (h' : PE X eb (rd W X wx (rV W X) (evE ev b))) (hn' : notStar eb = true) : PI X tg (.Call (.Name "range" p) [ea, eb] [] pos) (rdI W X wx (evI ev (.rng2 a b))) :=
  PI.mono (pi_range2 hg (c.kf.blt _ (by decide)) (pa_cons h (pa_cons h' pa_nil (star_cons hn')) (star_cons hn)) (by rw [star_cons hn, star_cons hn']; rfl) (star_cons hn')) fun σ H R ⟨B, S, fs, s, h⟩ => Pst.go s (show Pst W X wx (rJ W X) σ B S H R ((evE ev a fs).bind fun x fs => (evE ev b fs).bind fun y fs => match x, y with
    | .int i, .int j => if -(2 ^ 62) ≤ i ∧ i < 2 ^ 62 ∧ -(2 ^ 62) ≤ j ∧ j < 2 ^ 62 then .ok (range0 (j - i).toNat i) fs else .no
    | _, _ => .no) from h) fun v H1 S1 fs1 y s1 e1 r1 h1 => Pst.go s1 h1 fun u H2 S2 fs2 z s2 e2 r2 h2 => by
      have r1 : Rep W X.K X.w S1 H1 v y := r1
      have r2 : Rep W X.K X.w S2 H2 u z := r2
      cases y with
      | int i =>
        cases z with
        | int j =>
          have h2 : Pst W X wx (rJ W X) σ B S2 H2 R (if -(2 ^ 62) ≤ i ∧ i < 2 ^ 62 ∧ -(2 ^ 62) ≤ j ∧ j < 2 ^ 62 then .ok (range0 (j - i).toNat i) fs2 else .no) := h2
          by_cases l : -(2 ^ 62) ≤ i ∧ i < 2 ^ 62 ∧ -(2 ^ 62) ≤ j ∧ j < 2 ^ 62
          · rw [if_pos l] at h2
            rw [r1.int_inv, r2.int_inv]
            exact ⟨i, j, rfl, l, h2.here s2 wk_rng⟩
          · rw [if_neg l] at h2; exact h2.elim
        | _ => exact h2.elim
      | _ => exact h2.elim
end
end U
set_option maxHeartbeats 4000000
namespace U
open PySem PySem.Spec L2 PyProof.Rows
abbrev tle (a b : Str) : Prop := a.cps.toList ≤ b.cps.toList
theorem str_eq {a b : Str} (h : a.cps.toList = b.cps.toList) : a = b := by
  obtain ⟨⟨l⟩⟩ := a
  obtain ⟨⟨m⟩⟩ := b
  cases h
  rfl
theorem insT_perm (x : Str) : ∀ l : List Str, (insT x l).Perm (x :: l)
  | [] => .refl _
  | y :: ys => by
    unfold insT
    split
    · exact .refl _
    · exact ((insT_perm x ys).cons y).trans (.swap x y ys)
theorem sortT_perm : ∀ l : List Str, (sortT l).Perm l
  | [] => .refl _
  | x :: xs => (insT_perm x (sortT xs)).trans ((sortT_perm xs).cons x)
theorem insT_sorted (x : Str) : ∀ l : List Str, l.Pairwise tle → (insT x l).Pairwise tle
  | [], _ => List.pairwise_singleton _ _
  | y :: ys, h => by
    unfold insT
    split
    · rename_i le
      refine List.pairwise_cons.mpr ⟨fun z hz => ?_, h⟩
      rcases List.mem_cons.mp hz with e | hz
      · rw [e]; exact le
      · exact List.le_trans le ((List.pairwise_cons.mp h).1 z hz)
    · rename_i nle
      have le : tle y x := (List.le_total x.cps.toList y.cps.toList).resolve_left nle
      obtain ⟨h1, h2⟩ := List.pairwise_cons.mp h
      refine List.pairwise_cons.mpr ⟨fun z hz => ?_, insT_sorted x ys h2⟩
      rcases List.mem_cons.mp ((insT_perm x ys).mem_iff.mp hz) with e | hz
      · rw [e]; exact le
      · exact h1 z hz
theorem sortT_sorted : ∀ l : List Str, (sortT l).Pairwise tle
  | [] => .nil
  | x :: xs => insT_sorted x _ (sortT_sorted xs)
theorem rising_pair : ∀ (l : List Str) (p : Str), risingS p l = true → (p :: l).Pairwise tle
  | [], p, _ => List.pairwise_singleton _ _
  | x :: r, p, h => by
    have h2 := Bool.and_eq_true_iff.mp (show (!ltCps x.cps.toList p.cps.toList && risingS x r) = true from h)
    have ih := rising_pair r x h2.2
    have le : tle p x := by
      have q := h2.1
      rw [ltCps_eq] at q
      have : ¬ x.cps.toList < p.cps.toList := by simpa using q
      exact List.not_lt.mp this
    refine List.pairwise_cons.mpr ⟨fun z hz => ?_, ih⟩
    rcases List.mem_cons.mp hz with e | hz
    · rw [e]; exact le
    · exact List.le_trans le ((List.pairwise_cons.mp ih).1 z hz)
theorem sortedS_pair {l : List Str} (h : sortedS l = true) : l.Pairwise tle := by
  cases l with
  | nil => exact .nil
  | cons x r => exact rising_pair r x h
theorem sort_eq (ts ys : List Str) (p : ys.Perm ts) (h : sortedS ys = true) : ys = sortT ts :=
  List.Perm.eq_of_pairwise (fun a b _ _ h1 h2 => str_eq (List.le_antisymm h1 h2)) (sortedS_pair h) (sortT_sorted _) (p.trans (sortT_perm _).symm)
theorem R.bind_assoc {σ α β γ : Type} (r : R σ α) (f : α → σ → R σ β) (g : β → σ → R σ γ) : (r.bind f).bind g = r.bind fun a s => (f a s).bind g := by
  cases r <;> rfl
section
variable {W : Wd} {X : Cx} {wx : WX} {ev : Ev} {k : Nat} {a b d : E} {x : Str} {p p1 p2 p3 pos apos : Pos} {Q : VK} {B : Base} {S S' : Syn} {fs fs' : FS} {σ : L2.St} {H : Hp} {ea eb ed o : Expr}
theorem txts_keys : ∀ {us : List (Key × V)} {kvs : List (Key × PV)} {ts : List Str}, us.map (·.1) = kvs.map (·.1) → txts (kvs.map fun kv => keyV kv.1) = some ts → us.map (·.1) = ts.map Sum.inr
  | [], [], ts, _, h => by cases h; rfl
  | [], _ :: _, _, e, _ => by cases e
  | _ :: _, [], _, e, _ => by cases e
  | u :: us, q :: kvs, ts, e, h => by
    have e1 : u.1 = q.1 := (List.cons.inj e).1
    rw [List.map_cons] at h
    cases hq : q.1 with
    | inl i => rw [hq] at h; cases h
    | inr z =>
      rw [hq] at h
      have h : (txts (kvs.map fun kv => keyV kv.1)).map (z :: ·) = some ts := h
      obtain ⟨r, hr, e2⟩ := Option.map_eq_some_iff.mp h
      subst e2
      rw [List.map_cons, List.map_cons, e1, hq, txts_keys (List.cons.inj e).2 hr]
theorem txts_len : ∀ {xs : List PV} {ts : List Str}, txts xs = some ts → xs.length = ts.length
  | [], ts, h => by cases h; rfl
  | x :: r, ts, h => by
    cases x with
    | str z =>
      have h : (txts r).map (z :: ·) = some ts := h
      obtain ⟨q, hr, e2⟩ := Option.map_eq_some_iff.mp h
      subst e2
      rw [List.length_cons, List.length_cons, txts_len hr]
    | _ => cases h
theorem Reps.strs : ∀ ts : List Str, Reps W X.K X.w S H (ts.map V.str) (ts.map PV.str)
  | [] => .nil
  | t :: r => .cons (.s t) (Reps.strs r)
/-- sorted(d), d a dict with text keys: P what is known of a sorted list of texts -/
theorem xl_srtd (c : Ct W X ev k wx) (hg : Gl X "sorted") (ha : PE X ea (rd W X wx (rV W X) (evE ev a))) (hn : notStar ea = true) : PE X (.Call (.Name "sorted" p) [ea] [] pos) (rd W X wx (rL W X) (evL ev (.srtd a))) := by
  have pa : PA X [ea] (tCons _ tNil) := pa_cons ha pa_nil (star_cons hn)
  refine PE.mono (pe_callB (call_sortedD c.calm) hg (c.kf.blt _ (by decide)) boot_sorted pa (by decide) (by decide) (star_cons hn) (star_none _ _ _ rfl)) fun σ H Q ⟨B, S, fs, s, h⟩ => Pst.go s (show Pst W X wx (rL W X) σ B S H Q ((evE ev a fs).bind fun x fs => R.opt fs ((asD fs.hp x).bind fun kvs => (txts (kvs.map fun kv => keyV kv.1)).bind fun ts => if ts.length < 64 then some ((sortT ts).map .str) else none)) from h) fun v H1 S1 fs1 y s1 e1 r1 h1 => ?_
  obtain ⟨z, ez, h2⟩ := h1.opt
  obtain ⟨kvs, e2, ez⟩ := Option.bind_eq_some_iff.mp ez
  obtain ⟨ts, e3, ez⟩ := Option.bind_eq_some_iff.mp ez
  split at ez
  · rename_i l64
    cases ez
    obtain ⟨q, us, rfl, hq, n, r⟩ := asD_rep s1.hi r1 e2
    refine ⟨q, us, ts, rfl, .inl hq, txts_keys n e3, l64, fun ys w pm so hw => ?_⟩
    rw [sort_eq ts ys pm so]
    exact newL h2 s1 (Reps.strs _) w hw
  · cases ez
theorem xl_rvs {kk : Nat} (ha : PE X ea (rd W X wx (rV W X) (evE ev a))) : PE X (.Subscript ea (.Slice none none (some (.UnaryOp .USub (.Constant (.int 1) kk p1) p2)) p3) pos) (rd W X wx (rL W X) (evL ev (.rvs a))) :=
  PE.mono (pe_revL ha) fun σ H Q ⟨B, S, fs, s, h⟩ => Pst.go s (show Pst W X wx (rL W X) σ B S H Q ((evE ev a fs).bind fun x fs => R.opt fs ((asL fs.hp x).map List.reverse)) from h) fun v H1 S1 fs1 y s1 e1 r1 h1 => by
    obtain ⟨z, ez, h2⟩ := h1.opt
    obtain ⟨xs, e2, ez⟩ := Option.map_eq_some_iff.mp ez
    subst ez
    obtain ⟨q, us, rfl, hq, r⟩ := asL_rep s1.hi r1 e2
    exact ⟨q, us, rfl, hq, newL h2 s1 r.rev⟩
theorem flat_rep {vs : List V} {xs : List PV} (r : Reps W X.K X.w S H vs xs) : ∀ n : Nat, Reps W X.K X.w S H (List.replicate n vs).flatten (List.replicate n xs).flatten
  | 0 => .nil
  | n + 1 => by
    rw [List.replicate_succ, List.replicate_succ, List.flatten_cons, List.flatten_cons]
    exact r.app (flat_rep r n)
def rRepL : R2 := fun x y H Q => ∃ l k xs, x = .ref l ∧ y = .int k ∧ Rd H l (.lst xs) ∧ -(2 ^ 63) ≤ k ∧ k < 2 ^ 63 ∧ xs.length * k.toNat ≤ sizeLine ∧
  ∀ p, H p = none → Q (.ref p) (upd H p (.lst (List.replicate k.toNat xs).flatten))
theorem op_repL : OpR X (binaryOp .Mult) rRepL := by
  intro pins s σ H x y v u Q I rx ry h
  obtain ⟨l, k, xs, rfl, rfl, hH, h1, h2, hz, q⟩ := h
  cases rx
  obtain ⟨t, rfl⟩ := ry
  obtain ⟨z, its, n, r, hl, e⟩ := rd_lst I hH
  have hlen : its.toArray.size * k.toNat ≤ sizeLine := by rw [List.size_toArray, ← hl]; exact hz
  have hcap : ¬ its.toArray.size * k.toNat > (2 ^ 63 - 1) / 8 := by
    have : (sizeLine : Nat) ≤ (2 ^ 63 - 1) / 8 := by decide
    omega
  have hfit : ¬ (!Builtin.List.listFitsIndex k) = true := by
    rw [fitsIndex_both h1 h2]
    exact Bool.false_ne_true
  have hlong : ¬ Builtin.List.listTooLong (its.toArray.size * k.toNat) = true := by
    rw [notLongL hlen]
    exact Bool.false_ne_true
  have hnew : List.foldl (fun x1 x2 => x1 ++ x2) #[] (List.replicate (if its.toArray.isEmpty = true then 0 else k.toNat) its.toArray) = (List.replicate k.toNat its).flatten.toArray := by
    have f0 : ∀ m : Nat, List.foldl (fun x1 x2 => x1 ++ x2) #[] (List.replicate m its.toArray) = (List.replicate m its).flatten.toArray := fun m => by
      have := foldl_rep its m []
      rw [List.nil_append] at this
      exact this
    rw [f0]
    cases its with
    | nil => simp
    | cons a r' => rw [if_neg (by simp)]
  refine wpAny_binaryOp_repeat_ref (T := "list") (U := "int") (by decide) ⟨_, e, rfl⟩ (fun s' => typeIs_int s' k t) noFill_list_mul F.fills_int_mul F.slot_int_rmul repeat_list F.slot_int_index.lookup
    (call_meets F.slot_int_rmul (typeIs_int s k t) F.entry_int_rmul (F.args_int_rmul_2 _ _) (int___rmul___int_list k t l its.toArray n)
      ⟨e, rfl, ⟨_, e, rfl⟩, call_meets F.slot_list_mul ⟨_, e, rfl⟩ F.entry_list_mul (F.args_list_mul_2 _ _) (AutoListH.list___mul___list_int_3 l its.toArray n k t hfit hcap hlong) ⟨e, ?_⟩⟩)
  rw [hnew]
  exact ⟨.ref _, _, I.lnew (t' := s.toks) (r.rep k.toNat) (by rw [PyProof.Rows.lm_len_rep_flat, Nat.mul_comm]; exact hz), rfl, q _ I.fresh⟩
theorem xl_rep (ha : PE X ea (rd W X wx (rV W X) (evE ev a))) (hb : PE X eb (rd W X wx (rV W X) (evE ev b))) : PE X (.BinOp ea .Mult eb p) (rd W X wx (rL W X) (evL ev (.rep a b))) :=
  PE.mono (pe_op op_repL ha hb) fun σ H Q ⟨B, S, fs, s, h⟩ => Pst.go s (show Pst W X wx (rL W X) σ B S H Q ((evE ev a fs).bind fun x fs => (evE ev b fs).bind fun y fs => match y with
    | .int n => .opt fs ((asL fs.hp x).bind fun xs => if 0 ≤ n ∧ n ≤ 1000 ∧ xs.length ≤ 1000 then some (List.replicate n.toNat xs).flatten else none)
    | _ => .no) from h) fun v H1 S1 fs1 y s1 e1 r1 h1 =>
    Pst.go s1 h1 fun u H2 S2 fs2 z s2 e2 r2 h2 => by
      cases z with
      | int n =>
        have r2 : Rep W X.K X.w S2 H2 u (.int n) := r2
        obtain ⟨w', ew, h3⟩ := (show Pst W X wx (rL W X) σ B S2 H2 Q (R.opt fs2 ((asL fs2.hp y).bind fun xs => if 0 ≤ n ∧ n ≤ 1000 ∧ xs.length ≤ 1000 then some (List.replicate n.toNat xs).flatten else none)) from h2).opt
        obtain ⟨xs, x1, ew⟩ := Option.bind_eq_some_iff.mp ew
        split at ew
        · rename_i lim
          obtain ⟨l0, l1, l2⟩ := lim
          cases ew
          obtain ⟨q1, us, rfl, hq1, rr1⟩ := asL_rd s2.hi (Rep.ext e2 r1) x1
          refine ⟨q1, n, us, rfl, r2.int_inv, hq1, by omega, by omega, ?_, newL h3 s2 (flat_rep rr1 _)⟩
          have hm : us.length * n.toNat ≤ 1000 * 1000 := Nat.mul_le_mul (by rw [rr1.len]; exact l2) (by omega)
          exact Nat.le_trans hm (by decide)
        · cases ew
      | _ => exact h2.elim
/-- d.get(k, v) -/
theorem x_get2 (c : Ct W X ev k wx) (ho : PE X o (rd W X wx (rV W X) (evE ev a))) (he : PE X eb (rd W X wx (rV W X) (evE ev b))) (hf : PE X ed (rd W X wx (rV W X) (evE ev d))) (hb : notCall0 o = true) (hl : (apos.endLine == pos.line) = true) (hn : noStars [eb, ed] = true) :
    PE X (.Call (.Attribute o "get" apos) [eb, ed] [] pos) (rd W X wx (rV W X) (evE ev (.get2 a b d))) := by
  have n := Bool.and_eq_true_iff.mp (show (notStar eb && noStars [ed]) = true from hn)
  have n2 := Bool.and_eq_true_iff.mp (show (notStar ed && noStars []) = true from n.2)
  have tr : backTo pos (starEach [eb, ed] X.env) = [(false, eval eb X.env), (false, eval ed X.env)] := by
    rw [star_cons n.1, star_cons n2.1]
    rfl
  have m : M2 X o "get" apos eb ed pos := ⟨base_of hb, bm_few hn (by simp), hl, tr⟩
  refine PE.mono (pe_dget2 (Nat.lt_of_le_of_lt (by omega) c.u0) ho he hf m) fun σ H Q ⟨B, S, fs, s, h⟩ => Pst.go s (show Pst W X wx (rV W X) σ B S H Q ((evE ev a fs).bind fun x fs => match (asD fs.hp x).isSome with
    | true => (evE ev b fs).bind fun y fs => (evE ev d fs).bind fun z fs => .opt fs (getO fs.hp x y z)
    | false => .no) from h) fun v H1 S1 fs1 y s1 e1 r1 h1 => ?_
  cases el : (asD fs1.hp y).isSome with
  | false => simp only [el] at h1; exact h1.elim
  | true =>
    simp only [el] at h1
    obtain ⟨kvs0, ex0⟩ := Option.isSome_iff_exists.mp el
    obtain ⟨p0, us0, e0', hq0, _, _⟩ := asD_rep s1.hi r1 ex0
    refine ⟨p0, e0', .inl ⟨us0, .inl hq0⟩, Pst.go s1 h1 fun v2 H2 S2 fs2 y2 s2 e2 r2 h2 => Pst.go s2 h2 fun v3 H3 S3 fs3 y3 s3 e3 r3 h3 => ?_⟩
    obtain ⟨z, ez, h4⟩ := h3.opt
    have ez : (asD fs3.hp y).bind (fun kvs => (keyOf y2).map fun k => (dGet kvs k).getD y3) = some z := ez
    obtain ⟨kvs, k1, k2⟩ := Option.bind_eq_some_iff.mp ez
    obtain ⟨kk, k3, k4⟩ := Option.map_eq_some_iff.mp k2
    have ry : Rep W X.K X.w S3 H3 v y := (Rep.ext e2 r1).ext e3
    have r2' : Rep W X.K X.w S3 H3 v2 y2 := Rep.ext e3 r2
    obtain ⟨p1, us, ev1, hq, nn, rr⟩ := asD_rep s3.hi ry k1
    have ep : p0 = p1 := by
      have := e0'.symm.trans ev1
      injection this
    subst ep
    have g := dGet_val (W := W) (K := X.K) (w := X.w) kk nn rr
    refine ⟨valV us kk, by rw [keyOf_rep r2' k3]; exact DGet.k hq, ?_⟩
    cases cq : dGet kvs kk with
    | none =>
      rw [cq] at g k4
      rw [g]
      subst k4
      exact h4.here s3 r3
    | some x0 =>
      rw [cq] at g k4
      obtain ⟨w', g1, g2⟩ := g
      rw [g1]
      subst k4
      exact h4.here s3 g2
end
end U
namespace U
open PySem PySem.Spec L2
/-- what is read alone -/
def rdv : E → FS → Option PV
  | .var i, fs => fs.get i
  | .int i, _ => some (.int i)
  | .str z, _ => some (.str z)
  | .ix a b, fs => (rdv a fs).bind fun x => (rdv b fs).bind fun y => evIx fs.hp x y
  | _, _ => none
def still : E → Bool
  | .var _ => true
  | .int _ => true
  | .str _ => true
  | .ix a b => still a && still b
  | _ => false
theorem still_ev (ev : Ev) (fs : FS) : ∀ e : E, still e = true → evE ev e fs = R.opt fs (rdv e fs)
  | .var i, _ => by rw [evE]; rfl
  | .int i, _ => by rw [evE]; rfl
  | .str i, _ => by rw [evE]; rfl
  | .ix a b, h => by
    obtain ⟨h1, h2⟩ := Bool.and_eq_true_iff.mp h
    rw [evE, still_ev ev fs a h1, rdv]
    cases rdv a fs with
    | none => rfl
    | some x =>
      show ((evE ev b fs).bind fun y fs => R.opt fs (evIx fs.hp x y)) = _
      rw [still_ev ev fs b h2]
      cases rdv b fs with
      | none => rfl
      | some y => rfl
section
variable {W : Wd} {X : Cx} {ev : Ev} {k : Nat} {wx : WX} {ea eb : Expr} {p : Pos} {x : Str}
def rdQ (W : Wd) (X : Cx) (e : E) : TE := fun σ H Q => ∃ B S fs a, Sim W X.K X.w B S fs σ H ∧ rdv e fs = some a ∧ ∀ v, Rep W X.K X.w S H v a → Q v H
theorem q_var {i : Nat} (hN : X.N[i]? = some x) (hv : Vis X.env.scope x) (hd : (x == ("__debug__" : Str)) = false) (hcd : (x == ("__classdict__" : Str)) = false) : PE X (.Name x p) (rdQ W X (.var i)) :=
  PE.mono (pe_var hN hv hd hcd) fun σ H Q ⟨B, S, fs, a, s, e, h⟩ => by
    obtain ⟨v, e1, r⟩ := s.get e
    exact ⟨v, e1, h v r⟩
theorem q_int {i : Int} {j} : PE X (.Constant (.int i) j p) (rdQ W X (.int i)) := PE.mono pe_int fun σ H Q ⟨B, S, fs, a, s, e, h⟩ => by
  cases e
  exact h _ (.i i)
theorem q_str {i : Str} {j} : PE X (.Constant (.str i) j p) (rdQ W X (.str i)) := PE.mono pe_str fun σ H Q ⟨B, S, fs, a, s, e, h⟩ => by
  cases e
  exact h _ (.s i)
theorem q_ix {a b : E} (c : Ct W X ev k wx) (hs : notSlice eb = true) (ha : PE X ea (rdQ W X a)) (hb : PE X eb (rdQ W X b)) : PE X (.Subscript ea eb p) (rdQ W X (.ix a b)) :=
  PE.mono (pe_ix (ix_list.or (ix_tup.or (ix_str.or (ix_dict (by have := c.u0; omega))))) ha hb (plainIx_of hs)) fun σ H Q ⟨B, S, fs, z, s, e, h⟩ => by
    rw [rdv] at e
    obtain ⟨x, ex, e⟩ := Option.bind_eq_some_iff.mp e
    obtain ⟨y, ey, e⟩ := Option.bind_eq_some_iff.mp e
    exact ⟨B, S, fs, x, s, ex, fun v rv => ⟨B, S, fs, y, s, ey, fun u ru => ix_rd s.hi rv ru e fun w r => h w r⟩⟩
theorem x_disp1 {k v : E} (sk : still k = true) (sv : still v = true) (hk : PE X ea (rdQ W X k)) (hv : PE X eb (rdQ W X v)) : PE X (.Dict [some ea] [eb] p) (rd W X wx (rD W X) (evD ev (.disp (.cons k v .nil)))) :=
  PE.mono (pe_disp (pps_cons hk hv pps_nil) rfl rfl (by simp) (by simp)) fun σ H Q ⟨B, S, fs, s, h⟩ => by
    have h : Pst W X wx (rD W X) σ B S H Q (((evE ev k fs).bind fun x fs => (evE ev v fs).bind fun y fs => (evDs ev .nil fs).bind fun r fs => match keyOf x with
      | some j => .ok ((j, y) :: r) fs
      | none => .no).bind fun kvs fs => if kvs.length ≤ 15 then .ok (kvs.foldl (fun acc kv => dPut acc kv.1 kv.2) []) fs else .no) := by
      have e : ∀ f : FS, evD ev (.disp (.cons k v .nil)) f = ((evE ev k f).bind fun x fs => (evE ev v fs).bind fun y fs => (evDs ev .nil fs).bind fun r fs => match keyOf x with
        | some j => .ok ((j, y) :: r) fs
        | none => .no).bind fun kvs fs => if kvs.length ≤ 15 then .ok (kvs.foldl (fun acc kv => dPut acc kv.1 kv.2) []) fs else .no := fun f => by
        rw [evD, evDs] <;> rfl
      rw [← e]
      exact h
    rw [still_ev ev fs k sk] at h
    cases ek : rdv k fs with
    | none => rw [ek] at h; exact h.elim
    | some x =>
      rw [ek] at h
      have h : Pst W X wx (rD W X) σ B S H Q (((evE ev v fs).bind fun y fs => (evDs ev .nil fs).bind fun r fs => match keyOf x with
        | some j => .ok ((j, y) :: r) fs
        | none => .no).bind fun kvs fs => if kvs.length ≤ 15 then .ok (kvs.foldl (fun acc kv => dPut acc kv.1 kv.2) []) fs else .no) := h
      rw [still_ev ev fs v sv] at h
      cases ey : rdv v fs with
      | none => rw [ey] at h; exact h.elim
      | some y =>
        rw [ey] at h
        have h : Pst W X wx (rD W X) σ B S H Q (((evDs ev .nil fs).bind fun r fs => match keyOf x with
          | some j => .ok ((j, y) :: r) fs
          | none => .no).bind fun kvs fs => if kvs.length ≤ 15 then .ok (kvs.foldl (fun acc kv => dPut acc kv.1 kv.2) []) fs else .no) := h
        rw [evDs] at h
        cases ej : keyOf x with
        | none =>
          rw [ej] at h
          exact h.elim
        | some j =>
          rw [ej] at h
          have h : Pst W X wx (rD W X) σ B S H Q (.ok [(j, y)] fs) := h
          intro q hq
          obtain ⟨s1, e1, l1⟩ := s.lay (o := .dK []) hq
          refine ⟨B, S, fs, x, s1, ek, fun a ra => ⟨B, S, fs, y, s1, ey, fun u ru => ⟨upd_same, [(j, u)], ?_, Nat.le_of_ble_eq_true rfl, ?_⟩⟩⟩
          · rw [keyOf_rep ra ej]
            rfl
          · obtain ⟨s2, e2, l2⟩ := s.lay (o := .dK [(j, u)]) hq
            have nf : ∀ b, S.F b → b ≠ q := fun b f z => by
              subst z
              exact s.hi.al b f hq
            have uu : upd (upd H q (.dK [])) q (.dK (mergeK [] [(j, u)])) = upd H q (.dK [(j, u)]) := by
              funext b
              by_cases z : b = q
              · rw [z, upd_same, upd_same]; rfl
              · rw [upd_ne z, upd_ne z, upd_ne z]
            rw [uu]
            have ee : Ext S (upd H q (.dK [])) S (upd H q (.dK [(j, u)])) := ⟨fun _ f => f, fun b f => by rw [upd_ne (nf b f), upd_ne (nf b f)], fun _ _ h => h⟩
            exact h _ _ _ s2 e2 ⟨q, [(j, u)], rfl, l2, upd_same, rfl, .cons (Rep.ext ee ru) .nil⟩
end
end U
namespace U
open PySem PySem.Spec L2 PyProof.Rows
/-- slots that changed are among is -/
def Upd (is : List Nat) (σ σ' : L2.St) : Prop := σ'.length = σ.length ∧ ∀ i : Nat, i ∉ is → σ'[i]? = σ[i]?
theorem Upd.refl {is : List Nat} {σ : L2.St} : Upd is σ σ := ⟨rfl, fun _ _ => rfl⟩
theorem Upd.set {is : List Nat} {σ : L2.St} {i : Nat} {v : Option V} (h : i ∈ is) : Upd is σ (σ.set i v) := ⟨List.length_set, fun j hj => List.getElem?_set_ne (fun e => hj (by rw [← e]; exact h))⟩
theorem Upd.trans {is : List Nat} {σ σ1 σ2 : L2.St} (a : Upd is σ σ1) (b : Upd is σ1 σ2) : Upd is σ σ2 := ⟨b.1.trans a.1, fun i h => (b.2 i h).trans (a.2 i h)⟩
theorem wipe_at (σ : L2.St) : ∀ (vs : List Nat) (i : Nat), (wipe σ vs)[i]? = if i ∈ vs then (if i < σ.length then some none else none) else σ[i]?
  | [], i => by simp [wipe]
  | v :: vs, i => by
    unfold wipe
    by_cases e : v = i
    · subst e
      rw [List.getElem?_set_self']
      rw [if_pos (List.mem_cons_self ..)]
      by_cases l : v < σ.length
      · rw [if_pos l, List.getElem?_eq_getElem (by rw [wipe_length]; exact l)]
        rfl
      · rw [if_neg l, List.getElem?_eq_none (by rw [wipe_length]; omega)]
        rfl
    · rw [List.getElem?_set_ne e, wipe_at σ vs i]
      have : (i ∈ v :: vs) ↔ i ∈ vs := by simp [Ne.symm e]
      by_cases m : i ∈ vs
      · rw [if_pos m, if_pos (this.mpr m)]
      · rw [if_neg m, if_neg (fun z => m (this.mp z))]
theorem wipe_upd {σ σ2 : L2.St} {vs : List Nat} (h : Upd vs (wipe σ vs) σ2) : wipe σ2 vs = wipe σ vs := by
  apply List.ext_getElem?
  intro i
  rw [wipe_at, wipe_at]
  have l : σ2.length = σ.length := by rw [h.1, wipe_length]
  by_cases m : i ∈ vs
  · rw [if_pos m, if_pos m, l]
  · rw [if_neg m, if_neg m, h.2 i m, wipe_at, if_neg m]
/-- the slots' ends -/
theorem wip_at (sl : List Sl) : ∀ (vs : List Nat) (i : Nat), (wip sl vs)[i]? = if i ∈ vs then (if i < sl.length then some .un else none) else sl[i]?
  | [], i => by simp [wip]
  | v :: vs, i => by
    have hl : (wip sl vs).length = sl.length := by
      clear i v
      induction vs with
      | nil => rfl
      | cons v vs ih => unfold wip; rw [List.length_set]; exact ih
    unfold wip
    by_cases e : v = i
    · subst e
      rw [List.getElem?_set_self']
      rw [if_pos (List.mem_cons_self ..)]
      by_cases l : v < sl.length
      · rw [if_pos l, List.getElem?_eq_getElem (by rw [hl]; exact l)]
        rfl
      · rw [if_neg l, List.getElem?_eq_none (by rw [hl]; omega)]
        rfl
    · rw [List.getElem?_set_ne e, wip_at sl vs i]
      have : (i ∈ v :: vs) ↔ i ∈ vs := by simp [Ne.symm e]
      by_cases m : i ∈ vs
      · rw [if_pos m, if_pos (this.mpr m)]
      · rw [if_neg m, if_neg (fun z => m (this.mp z))]
theorem wip_len (sl : List Sl) (vs : List Nat) : (wip sl vs).length = sl.length := by
  induction vs with
  | nil => rfl
  | cons v vs ih => unfold wip; rw [List.length_set]; exact ih
section
variable {W : Wd} {X : Cx} {wx : WX} {ev : Ev} {k : Nat} {es : List Expr} {kws : List Keyword} {cs : Es} {x : Str} {p pos apos p2 : Pos} {Q : VK} {B : Base} {S S' : Syn} {fs fs' : FS} {σ σ' : L2.St} {H H' : Hp} {f : Nat} {vs : List V} {args : List PV} {o : Expr} {m : Nat} {a b e e2 e3 : E} {ea eb ec : Expr} {t u : T} {h : Hb} {lo hi : Option Expr} {ol oh : O}
def tgIx : Tg → List Nat
  | .n i => [i]
  | .t is => is
/-- a target's reading -/
def rG (W : Wd) (X : Cx) (tg : Tg) : TG := fun v σ H Q => ∃ B S fs y fs', Sim W X.K X.w B S fs σ H ∧ Rep W X.K X.w S H v y ∧ asg tg y fs = some fs' ∧ ∀ σ', Sim W X.K X.w B S fs' σ' H → Upd (tgIx tg) σ σ' → Q σ' H
theorem g_n {i : Nat} (hN : X.N.Nodup) (hi : X.N[i]? = some x) (hx : Loc X.env.scope x) (hf : X.fn x = true ∨ X.env.scope.names.lookup x = some .local) : PG X (.Name x p) (rG W X (.n i)) :=
  ⟨fun pins s σ H v u Q I r ⟨B, S, fs, y, fs', si, ry, e, q⟩ => (pg_name (pos := p) hN hi hx hf).run pins s σ H v u Q I r (by
    cases e
    exact q _ (si.set ry i) (Upd.set (List.mem_singleton.mpr rfl)))⟩
/-- names, one behind another -/
def nmOk (X : Cx) : List Expr → List Nat → Prop
  | [], [] => True
  | .Name x _ :: es, i :: is => X.N[i]? = some x ∧ Loc X.env.scope x ∧ (X.fn x = true ∨ X.env.scope.names.lookup x = some .local) ∧ nmOk X es is
  | _, _ => False
theorem nm_each : ∀ {es : List Expr} {is : List Nat}, nmOk X es is → (assignEach es X.env).length = es.length ∧ (assignEach es X.env).findIdx? (·.1) = none ∧ es.length = is.length
  | [], [], _ => ⟨rfl, rfl, rfl⟩
  | .Name x q :: es, i :: is, h => by
    obtain ⟨h1, h2, h3⟩ := nm_each (es := es) (is := is) h.2.2.2
    refine ⟨congrArg Nat.succ h1, ?_, congrArg Nat.succ h3⟩
    show List.findIdx? _ ((false, _) :: assignEach es X.env) = none
    rw [List.findIdx?_cons]
    simp [h2]
/-- several targets' reading -/
def rGs (W : Wd) (X : Cx) (is : List Nat) (all : List Nat) : TGs := fun vs σ H Q => ∃ B S fs ys fs', Sim W X.K X.w B S fs σ H ∧ Reps W X.K X.w S H vs ys ∧ setAll is ys fs = some fs' ∧ (∀ i ∈ is, i ∈ all) ∧ ∀ σ', Sim W X.K X.w B S fs' σ' H → Upd all σ σ' → Q σ' H
theorem gs_n (hN : X.N.Nodup) : ∀ {es : List Expr} {is all : List Nat}, nmOk X es is → PGs X es (rGs W X is all)
  | [], [], all, _ => ⟨fun pins s σ H vs us Q I r ⟨B, S, fs, ys, fs', si, ry, e, _, q⟩ => pgs_nil.run pins s σ H vs us Q I r (by
      cases ys with
      | nil => cases e; cases ry; exact ⟨rfl, q σ si .refl⟩
      | cons _ _ => cases e)⟩
  | .Name x p :: es, i :: is, all, h => by
    have ih := gs_n hN (es := es) (is := is) (all := all) h.2.2.2
    have h1 : PG X (.Name x p) (gName i) := pg_name hN h.1 h.2.1 h.2.2.1
    refine ⟨fun pins s σ H vs us Q I r ⟨B, S, fs, ys, fs', si, ry, e, al, q⟩ => (pgs_cons h1 ih (by rfl)).run pins s σ H vs us Q I r ?_⟩
    cases ys with
    | nil => cases e
    | cons y ys =>
      cases ry with
      | @cons v _ vs _ r1 r2 =>
        have s1 := si.set r1 i
        exact ⟨v, vs, rfl, B, S, _, ys, fs', s1, r2, e, fun j m => al j (List.mem_cons_of_mem _ m), fun σ' s2 u2 => q σ' s2 ((Upd.set (al i (List.mem_cons_self ..))).trans u2)⟩
theorem g_t {is : List Nat} {j : Nat} (hc : X.calm = true) (hN : X.N.Nodup) (h : nmOk X es is) : PG X (.Tuple es j p) (rG W X (.t is)) := by
  obtain ⟨n1, n2, n3⟩ := nm_each h
  refine ⟨fun pins s σ H v u Q I r ⟨B, S, fs, y, fs', si, ry, e, q⟩ => (pg_tup (n := es.length) hc (gs_n (W := W) (all := is) hN h) n1 n2).run pins s σ H v u Q I r ?_⟩
  cases y with
  | tup ys =>
    obtain ⟨a, vs, rfl, hq, r2⟩ := ry.tup_inv
    have e : setAll is ys fs = some fs' := e
    have len : ∀ {is : List Nat} {ys : List PV} {fs fs' : FS}, setAll is ys fs = some fs' → is.length = ys.length := fun {is} => by
      induction is with
      | nil => intro ys fs fs' h; cases ys with | nil => rfl | cons _ _ => cases h
      | cons i is ih => intro ys fs fs' h; cases ys with | nil => cases h | cons y ys => exact congrArg Nat.succ (ih (show setAll is ys (fs.set i y) = some fs' from h))
    refine ⟨a, vs, rfl, hq, by rw [r2.len, ← len e, n3], B, S, fs, ys, fs', si, r2, e, fun _ m => m, q⟩
  | _ => cases e
theorem Sim.poke {p : Addr} {o : HO} (s : Sim W X.K X.w B S fs σ H) (l : Loose B S fs σ p) (hp : H p ≠ none) : Sim W X.K X.w B S fs σ (upd H p o) ∧ Ext S H S (upd H p o) := by
  obtain ⟨⟨l1, l2, l3⟩, l4⟩ := l
  have e : Ext S H S (upd H p o) := ⟨fun _ f => f, fun b f => upd_ne fun z => l1 (z ▸ f), fun _ _ h => h⟩
  have al : ∀ b, H b ≠ none → upd H p o b ≠ none := fun b hb => by
    by_cases z : b = p
    · rw [z, upd_same]; intro y; cases y
    · rw [upd_ne z]; exact hb
  refine ⟨⟨⟨s.rel.pre, fun b q hb n => ?_, s.rel.frz, s.rel.new, fun b hb => al b (s.rel.al b hb)⟩, ⟨s.hi.len, s.hi.nd, s.hi.dis, fun b f => al b (s.hi.al b f), fun c q r h1 h2 => ?_⟩, s.len, fun i q v h1 h2 => ?_, s.ap⟩, e⟩
  · rw [upd_ne (fun z => by rw [z, l3] at hb; cases hb)]
    exact s.rel.keep b q hb n
  · refine (s.hi.ob c q r h1 h2).ext e (upd_ne fun z => ?_)
    rw [z] at h2
    exact l2 (List.mem_of_getElem? h2)
  · refine (s.sl i q v h1 h2).later e fun ow p' e' o' n' => ⟨upd_ne fun z => ?_, o'⟩
    rw [e', z] at h2
    exact l4 i q h1 ow h2
/-- the frame of a block -/
theorem Sim.block (s : Sim W X.K X.w B S fs σ H) (vs : List Nat) : Sim W X.K X.w ⟨S, H, 0⟩ S { sl := (blk fs vs).sl, hp := fs.hp } (wipe σ vs) H := by
  have hl : (blk fs vs).sl.length = fs.sl.length := by show (wip (fs.sl.map blind) vs).length = _; rw [wip_len, List.length_map]
  have no : ∀ (i : Nat) q, (blk fs vs).sl[i]? = some q → isOwn q = false := fun i q h => by
    have h : (wip (fs.sl.map blind) vs)[i]? = some q := h
    rw [wip_at] at h
    by_cases m : i ∈ vs
    · rw [if_pos m] at h
      split at h
      · cases h; rfl
      · cases h
    · rw [if_neg m, List.getElem?_map] at h
      obtain ⟨q', _, e⟩ := Option.map_eq_some_iff.mp h
      subst e
      cases q' <;> rfl
  refine ⟨Rel.refl, s.hi, by rw [wipe_length, s.len]; exact hl.symm, fun i q v h1 h2 => ?_, fun i j q t p ne h1 h2 o1 => by rw [no i q h1] at o1; cases o1⟩
  have h1 : (wip (fs.sl.map blind) vs)[i]? = some q := h1
  rw [wip_at] at h1
  rw [wipe_at] at h2
  by_cases m : i ∈ vs
  · rw [if_pos m] at h1
    split at h1
    · cases h1; exact .un
    · cases h1
  · rw [if_neg m, List.getElem?_map] at h1
    rw [if_neg m] at h2
    obtain ⟨q', g1, e⟩ := Option.map_eq_some_iff.mp h1
    subst e
    have z := s.sl i q' v g1 h2
    cases z with
    | val r => exact .val r
    | _ => exact .un
/-- one turn's answer -/
def rOp (W : Wd) (X : Cx) : RRel (Option V) (Option PV) := fun _ S _ _ H v y => match v, y with
  | some v, some y => Rep W X.K X.w S H v y
  | none, none => True
  | _, _ => False
def turnC (ev : Ev) (elt : E) (tg : Tg) (ts : Ts) : PV → FS → R FS (Option PV) := fun x f => match asg tg x f with
  | some f => (evTs ev ts f).bind fun k f => match k with
    | true => (evE ev elt f).bind fun v f => .ok (some v) f
    | false => .ok none f
  | none => .no
def compR (fs : FS) : R Hb (List PV) → R FS (List PV)
  | .ok ys h => .ok ys { fs with hp := h }
  | _ => .no
theorem comp_eq {elt : E} {tg : Tg} {it : IE} {w : List Nat} {ts : Ts} : evL ev (.comp elt tg it w ts) fs = (evI ev it fs).bind fun xs fs => compR fs (cmpN (turnC ev elt tg ts) xs fs.hp (blk fs w).sl []) := by
  show (evI ev it fs).bind _ = _
  rfl
abbrev wxF : WX := fun _ _ _ _ => False
theorem lcR {elt : E} {tg : Tg} {it : IE} {w : List Nat} {ts : Ts} (hw : ∀ i ∈ tgIx tg, i ∈ w) {σ : L2.St} {H : Hp} {Q : VK} (h : rd W X wx (rL W X) (evL ev (.comp elt tg it w ts)) σ H Q) :
    tLc (rdI W X wx (evI ev it)) (rG W X tg) (rd W X wxF rB1 (evTs ev ts)) (rd W X wxF (rV W X) (evE ev elt)) w σ H Q := by
  obtain ⟨B, S, fs, s, h⟩ := h
  rw [comp_eq] at h
  refine Pst.go s h fun J H1 S1 fs1 xs s1 e1 wk h1 => ?_
  intro D hD
  refine ⟨fun i m H => m = xs.length - i ∧ i ≤ xs.length ∧ ∃ S2 h2 acc accV, Sim W X.K X.w B S2 { fs1 with hp := h2 } σ H ∧ Ext S1 H1 S2 H ∧ Loose B S2 { fs1 with hp := h2 } σ D ∧ H D = some (.lst accV) ∧ Reps W X.K X.w S2 H accV acc ∧
    Pst W X wx (rL W X) σ B S1 H1 Q (compR fs1 (cmpN (turnC ev elt tg ts) (xs.drop i) h2 (blk fs1 w).sl acc)), ⟨xs.length, ?_⟩, ?_⟩
  · obtain ⟨s2, e2, l2⟩ := s1.lay (o := .lst []) hD
    exact ⟨rfl, Nat.zero_le _, S1, fs1.hp, [], [], s2, e2, l2, upd_same, .nil, h1⟩
  · rintro i m H2 ⟨rfl, hi, S2, h2, acc, accV, s2, e2, l2, hD2, ra, q⟩
    by_cases hlt : i < xs.length
    · right
      refine ⟨wk.go _ _ i e2 hlt, fun H3 => ∃ S3 h3 acc3 accV3, Sim W X.K X.w B S3 { fs1 with hp := h3 } σ H3 ∧ Ext S1 H1 S3 H3 ∧ Loose B S3 { fs1 with hp := h3 } σ D ∧ H3 D = some (.lst accV3) ∧ Reps W X.K X.w S3 H3 accV3 acc3 ∧
        Pst W X wx (rL W X) σ B S1 H1 Q (compR fs1 (cmpN (turnC ev elt tg ts) (xs.drop (i + 1)) h3 (blk fs1 w).sl acc3)), fun H3 n => ⟨xs.length - (i + 1), by omega, rfl, hlt, n⟩, fun v H3 y => ?_⟩
      obtain ⟨e3, z, hz, rz⟩ := wk.yld _ _ i v H3 e2 hlt y
      subst e3
      have ed : xs.drop i = z :: xs.drop (i + 1) := by
        rw [List.drop_eq_getElem_cons hlt]
        rw [List.getElem?_eq_getElem hlt] at hz
        cases hz
        rfl
      rw [ed] at q
      have q' : Pst W X wx (rL W X) σ B S1 H1 Q (compR fs1 (match turnC ev elt tg ts z { sl := (blk fs1 w).sl, hp := h2 } with
        | .ok (some y) fs => if acc.length < sizeLine then cmpN (turnC ev elt tg ts) (xs.drop (i + 1)) fs.hp (blk fs1 w).sl (acc ++ [y]) else .no
        | .ok none fs => cmpN (turnC ev elt tg ts) (xs.drop (i + 1)) fs.hp (blk fs1 w).sl acc
        | _ => .no)) := q
      have sb := s2.block (fs := { fs1 with hp := h2 }) w
      have sb : Sim W X.K X.w ⟨S2, H3, 0⟩ S2 { sl := (blk fs1 w).sl, hp := h2 } (wipe σ w) H3 := sb
      cases ea : asg tg z { sl := (blk fs1 w).sl, hp := h2 } with
      | none =>
        have : turnC ev elt tg ts z { sl := (blk fs1 w).sl, hp := h2 } = .no := by unfold turnC; rw [ea]
        rw [this] at q'
        exact q'.elim
      | some f3 =>
        have et : turnC ev elt tg ts z { sl := (blk fs1 w).sl, hp := h2 } = (evTs ev ts f3).bind fun k f => match k with
            | true => (evE ev elt f).bind fun v f => .ok (some v) f
            | false => .ok none f := by unfold turnC; rw [ea]
        rw [et] at q'
        refine ⟨⟨S2, H3, 0⟩, S2, _, z, f3, sb, rz, ea, fun σ2 s3 u3 => ⟨wipe_upd ⟨u3.1, fun i n => u3.2 i fun m => n (hw i m)⟩, ?_⟩⟩
        -- what a turn leaves
        have done : ∀ {S4 : Syn} {H4 : Hp} {f4 : FS}, Sim W X.K X.w ⟨S2, H3, 0⟩ S4 f4 σ2 H4 → Sim W X.K X.w B S4 { fs1 with hp := f4.hp } σ H4 ∧ Ext S1 H1 S4 H4 ∧ Loose B S4 { fs1 with hp := f4.hp } σ D ∧ H4 D = some (.lst accV) ∧ Reps W X.K X.w S4 H4 accV acc := fun {S4 H4 f4} s4 => by
          have rl : Rel S2 H3 S4 H4 := s4.rel
          have hn : H3 D ≠ none := by rw [hD2]; intro z; cases z
          obtain ⟨s5, e5⟩ := s2.call (h' := f4.hp) rl s4.hi
          refine ⟨s5, e2.trans e5, ⟨⟨fun f => l2.1.1 ((rl.frz D hn).mp f), fun m => hn (rl.new D m l2.1.2.1), l2.1.2.2⟩, l2.2⟩, rl.keep D _ hD2 l2.1.2.1, ra.ext e5⟩
        have pt : Pst W X wxF (rOp W X) σ2 ⟨S2, H3, 0⟩ S2 H3 (fun (ov : Option V) H4 => match ov with
            | some y => ∃ acc, H4 D = some (.lst acc) ∧ acc.length < sizeLine ∧ ∃ S3 h3 acc3 accV3, Sim W X.K X.w B S3 { fs1 with hp := h3 } σ (upd H4 D (.lst (acc ++ [y]))) ∧ Ext S1 H1 S3 (upd H4 D (.lst (acc ++ [y]))) ∧ Loose B S3 { fs1 with hp := h3 } σ D ∧ (upd H4 D (.lst (acc ++ [y]))) D = some (.lst accV3) ∧ Reps W X.K X.w S3 (upd H4 D (.lst (acc ++ [y]))) accV3 acc3 ∧
                Pst W X wx (rL W X) σ B S1 H1 Q (compR fs1 (cmpN (turnC ev elt tg ts) (xs.drop (i + 1)) h3 (blk fs1 w).sl acc3))
            | none => ∃ S3 h3 acc3 accV3, Sim W X.K X.w B S3 { fs1 with hp := h3 } σ H4 ∧ Ext S1 H1 S3 H4 ∧ Loose B S3 { fs1 with hp := h3 } σ D ∧ H4 D = some (.lst accV3) ∧ Reps W X.K X.w S3 H4 accV3 acc3 ∧
                Pst W X wx (rL W X) σ B S1 H1 Q (compR fs1 (cmpN (turnC ev elt tg ts) (xs.drop (i + 1)) h3 (blk fs1 w).sl acc3)))
            ((evTs ev ts f3).bind fun k f => match k with
              | true => (evE ev elt f).bind fun v f => .ok (some v) f
              | false => .ok none f) := by
          generalize ((evTs ev ts f3).bind fun k f => match k with
              | true => (evE ev elt f).bind fun v f => .ok (some v) f
              | false => .ok none f) = r at q' ⊢
          cases r with
          | no => exact q'.elim
          | ex c vs f => exact q'.elim
          | ok oy f4 =>
            cases oy with
            | none =>
              intro ov H4 S4 s4 e4 rr
              cases ov with
              | some _ => exact rr.elim
              | none =>
                obtain ⟨d1, d2, d3, d4, d5⟩ := done s4
                exact ⟨S4, f4.hp, acc, accV, d1, d2, d3, d4, d5, q'⟩
            | some y =>
              intro ov H4 S4 s4 e4 rr
              cases ov with
              | none => exact rr.elim
              | some y' =>
                obtain ⟨d1, d2, d3, d4, d5⟩ := done s4
                have rr : Rep W X.K X.w S4 H4 y' y := rr
                have q' : Pst W X wx (rL W X) σ B S1 H1 Q (compR fs1 (if acc.length < sizeLine then cmpN (turnC ev elt tg ts) (xs.drop (i + 1)) f4.hp (blk fs1 w).sl (acc ++ [y]) else .no)) := q'
                by_cases hz : acc.length < sizeLine
                · rw [if_pos hz] at q'
                  obtain ⟨s6, e6⟩ := d1.poke (o := .lst (accV ++ [y'])) d3 (by rw [d4]; intro z; cases z)
                  exact ⟨accV, d4, by rw [ra.len]; exact hz, S4, f4.hp, acc ++ [y], accV ++ [y'], s6, d2.trans e6, d3, upd_same, (d5.ext e6).app (.cons (rr.ext e6) .nil), q'⟩
                · rw [if_neg hz] at q'
                  exact q'.elim
        refine Pst.go s3 pt fun b H4 S4 f4 b' s4 e4 rb pt4 => ?_
        cases (show b = b' from rb)
        cases b with
        | true =>
          rw [if_pos rfl]
          exact Pst.go s4 pt4 fun y H5 S5 f5 y' s5 e5 ry pt5 => Pst.here (v := some y) pt5 s5 ry
        | false =>
          rw [if_neg (by decide)]
          exact Pst.here (v := none) pt4 s4 trivial
    · left
      have ei : i = xs.length := by omega
      subst ei
      refine ⟨wk.stop _ _ _ e2 (Nat.le_refl _), ?_⟩
      rw [List.drop_length] at q
      have q : Pst W X wx (rL W X) σ B S1 H1 Q (.ok acc { fs1 with hp := h2 }) := q
      exact q _ _ _ s2 e2 ⟨D, accV, rfl, l2, hD2, ra⟩
end
end U
namespace U
open PySem PySem.Spec L2 PyProof.Rows
section
variable {W : Wd} {X : Cx} {wx : WX} {ev : Ev} {k : Nat} {es : List Expr} {kws : List Keyword} {cs : Es} {x : Str} {p pos apos p2 : Pos} {Q : VK} {B : Base} {S S' S2 : Syn} {fs fs' : FS} {σ σ' : L2.St} {H H' H2 : Hp} {f : Nat} {vs : List V} {args : List PV} {o : Expr} {m : Nat} {a b e e2 e3 : E} {ea eb ec : Expr} {t u : T} {h : Hb} {lo hi : Option Expr} {ol oh : O} {fr : Bool} {D : Ends}
/-- what is wanted behind a statement -/
def PsS (W : Wd) (X : Cx) (wx : WX) (fr : Bool) (B : Base) (S : Syn) (H : Hp) (D : Ends) : R FS Fl → Prop
  | .ok .nx fs' => ∀ σ' H' S', Sim W X.K X.w B S' fs' σ' H' → Ext S H S' H' → D.nx σ' H'
  | .ok .bk fs' => ∀ σ' H' S', Sim W X.K X.w B S' fs' σ' H' → Ext S H S' H' → D.bk σ' H'
  | .ok .ct fs' => ∀ σ' H' S', Sim W X.K X.w B S' fs' σ' H' → Ext S H S' H' → D.ct σ' H'
  | .ok (.rt y) fs' => match fr with
    | false => ∀ v H' S', Rel B.S B.H S' H' → HInv W X.K X.w S' fs'.hp H' → Rep W X.K X.w S' H' v y → D.rt v H'
    | true => isFr y = true ∧ ∀ p H' S', Rel B.S B.H S' H' → HInv W X.K X.w S' fs'.hp H' → Ow B S' p → FrR W X.K X.w S' H' p y → D.rt (.ref p) H'
  | .ex c vs fs' => ∀ cls d σ' H' S', Sim W X.K X.w B S' fs' σ' H' → Ext S H S' H' → ExR W X.K c vs cls d → wx cls d σ' H'
  | .no => False
def rdS (W : Wd) (X : Cx) (wx : WX) (fr : Bool) (r : FS → R FS Fl) : TS := fun D σ H => ∃ B S fs, Sim W X.K X.w B S fs σ H ∧ PsS W X wx fr B S H D (r fs)
theorem PsS.later {r : R FS Fl} (h : PsS W X wx fr B S H D r) (e : Ext S H S' H') : PsS W X wx fr B S' H' D r := by
  cases r with
  | ok fl f => cases fl with
    | rt v => exact h
    | nx => exact fun σ' H2 S2 s e2 => h σ' H2 S2 s (e.trans e2)
    | bk => exact fun σ' H2 S2 s e2 => h σ' H2 S2 s (e.trans e2)
    | ct => exact fun σ' H2 S2 s e2 => h σ' H2 S2 s (e.trans e2)
  | ex c vs f => exact fun cls d σ' H2 S2 s e2 r => h cls d σ' H2 S2 s (e.trans e2) r
  | no => exact h
theorem PsS.go {ν α : Type} {RR : RRel ν α} {Q1 : ν → Hp → Prop} {k : α → FS → R FS Fl} (s : Sim W X.K X.w B S fs σ H) {f : FS → R FS α} (h : PsS W X wx fr B S H D ((f fs).bind k))
    (q : ∀ v H1 S1 fs1 a, Sim W X.K X.w B S1 fs1 σ H1 → Ext S H S1 H1 → RR B S1 fs1 σ H1 v a → PsS W X wx fr B S1 H1 D (k a fs1) → Q1 v H1) : rd W X wx RR f σ H Q1 := by
  refine ⟨B, S, fs, s, ?_⟩
  cases r : f fs with
  | ok a f1 =>
    rw [r] at h
    exact fun v H1 S1 s1 e1 rr => q v H1 S1 f1 a s1 e1 rr (h.later e1)
  | ex c vs f1 =>
    rw [r] at h
    exact fun cls d H1 S1 s1 e1 rr => h cls d σ H1 S1 s1 e1 rr
  | no =>
    rw [r] at h
    exact h.elim
theorem PsS.nx (h : PsS W X wx fr B S H D (.ok .nx fs)) (s : Sim W X.K X.w B S' fs σ H') (e : Ext S H S' H') : D.nx σ H' := h σ H' S' s e
theorem s_ex (h : PE X ea (rd W X wx (rV W X) (evE ev a))) (hn : notComp ea = true) : PS X (.Expr ea p) (rdS W X wx fr (evS ev (.ex a))) :=
  PS.mono (ps_expr h (swaps_of hn)) fun D σ H ⟨B, S, fs, s, h⟩ => PsS.go s (show PsS W X wx fr B S H D ((evE ev a fs).bind fun _ fs => .ok .nx fs) from h) fun v H1 S1 fs1 y s1 e1 r1 h1 => h1.nx s1 .refl
theorem s_doc {z : Str} {j} {p'} : PS X (.Expr (.Constant (.str z) j p') p) (rdS W X wx fr (evS ev .pas)) := PS.mono ps_doc fun D σ H ⟨B, S, fs, s, h⟩ => PsS.nx (fs := fs) h s .refl
theorem s_pas : PS X (.Pass p) (rdS W X wx fr (evS ev .pas)) := PS.mono ps_pass fun D σ H ⟨B, S, fs, s, h⟩ => PsS.nx (fs := fs) h s .refl
theorem s_brk : PS X (.Break p) (rdS W X wx fr (evS ev .brk)) := PS.mono ps_break fun D σ H ⟨B, S, fs, s, h⟩ => (show PsS W X wx fr B S H D (.ok .bk fs) from h) σ H S s .refl
theorem s_cnt : PS X (.Continue p) (rdS W X wx fr (evS ev .cnt)) := PS.mono ps_continue fun D σ H ⟨B, S, fs, s, h⟩ => (show PsS W X wx fr B S H D (.ok .ct fs) from h) σ H S s .refl
theorem s_nev {st : Stmt} : PS X st (rdS W X wx fr (evS ev .nev)) := PS.mono ps_never fun D σ H ⟨B, S, fs, s, h⟩ => (show PsS W X wx fr B S H D .no from h)
theorem s_ret (h : PE X ea (rd W X wx (rV W X) (evE ev a))) : PS X (.Return (some ea) p) (rdS W X wx false (evS ev (.ret a))) :=
  PS.mono (ps_ret h) fun D σ H ⟨B, S, fs, s, h⟩ => PsS.go s (show PsS W X wx false B S H D ((evE ev a fs).bind fun v fs => .ok (.rt v) fs) from h) fun v H1 S1 fs1 y s1 e1 r1 h1 => h1 v H1 S1 s1.rel s1.hi r1
theorem s_retn : PS X (.Return none p) (rdS W X wx false (evS ev .retn)) := PS.mono ps_retN fun D σ H ⟨B, S, fs, s, h⟩ => (show PsS W X wx false B S H D (.ok (.rt .non) fs) from h) _ _ _ s.rel s.hi .n
theorem s_retl {l : LE} (h : PE X ea (rd W X wx (rL W X) (evL ev l))) : PS X (.Return (some ea) p) (rdS W X wx true (evS ev (.retl l))) :=
  PS.mono (ps_ret h) fun D σ H ⟨B, S, fs, s, h⟩ => PsS.go s (show PsS W X wx true B S H D ((evL ev l fs).bind fun v fs => .ok (.rt (.lst v)) fs) from h) fun v H1 S1 fs1 y s1 e1 ⟨q, us, ev', lo, hq, r1⟩ h1 => by
    subst ev'
    exact h1.2 q H1 S1 s1.rel s1.hi lo.1 ⟨us, hq, r1⟩
theorem s_retd {d : DE} (h : PE X ea (rd W X wx (rD W X) (evD ev d))) : PS X (.Return (some ea) p) (rdS W X wx true (evS ev (.retd d))) :=
  PS.mono (ps_ret h) fun D σ H ⟨B, S, fs, s, h⟩ => PsS.go s (show PsS W X wx true B S H D ((evD ev d fs).bind fun kvs fs => .ok (.rt (.dic (kvs.map (·.1)) (kvs.map (·.2)))) fs) from h) fun v H1 S1 fs1 y s1 e1 ⟨q, us, ev', lo, hq, n, r1⟩ h1 => by
    subst ev'
    exact h1.2 q H1 S1 s1.rel s1.hi lo.1 ⟨us, hq, n, r1⟩
theorem s_reto {i : Nat} (hN : X.N[i]? = some x) (hv : Vis X.env.scope x) (hd : (x == ("__debug__" : Str)) = false) (hcd : (x == ("__classdict__" : Str)) = false) : PS X (.Return (some (.Name x p2)) p) (rdS W X wx true (evS ev (.reto i))) :=
  PS.mono (ps_ret (pe_var (pos := p2) hN hv hd hcd)) fun D σ H ⟨B, S, fs, s, h⟩ => by
    have h : PsS W X wx true B S H D ((frzS fs i).bind fun v fs => .ok (.rt v) fs) := h
    unfold frzS at h
    split at h
    · rename_i xs e
      obtain ⟨q, u, e1, o1, hu⟩ := s.own_at e rfl
      have k := s.sl i _ _ e e1
      cases k with
      | @lst _ vs _ o2 h2 r2 => exact ⟨_, e1, h.2 q H S s.rel s.hi o2 ⟨vs, h2, r2⟩⟩
    · rename_i kvs e
      obtain ⟨q, u, e1, o1, hu⟩ := s.own_at e rfl
      have k := s.sl i _ _ e e1
      cases k with
      | @dic _ us _ o2 h2 n2 r2 => exact ⟨_, e1, h.2 q H S s.rel s.hi o2 ⟨us, h2, n2, r2⟩⟩
    · exact h.elim
theorem swaps_attr {e o : Expr} {f : Str} {p : Pos} {l : Nat} {env : Env} : swapsWith e (some (.Attribute o f p)) l env = pure false := by cases e <;> rfl
theorem swaps_sub {e o i : Expr} {p : Pos} {l : Nat} {env : Env} : swapsWith e (some (.Subscript o i p)) l env = pure false := by cases e <;> rfl
theorem swaps_tup {e : Expr} {es : List Expr} {j : Nat} {p : Pos} {l : Nat} {env : Env} : swapsWith e (some (.Tuple es j p)) l env = pure false := by cases e <;> rfl
theorem s_set {i : Nat} (c : Ct W X ev k wx) (hi : X.N[i]? = some x) (hx : Loc X.env.scope x) (hf : X.fn x = true ∨ X.env.scope.names.lookup x = some .local) (hn : notComp ea = true) (h : PE X ea (rd W X wx (rV W X) (evE ev a))) : PS X (.Assign [.Name x p2] ea p) (rdS W X wx fr (evS ev (.set i a))) :=
  PS.mono (ps_set c.nd hi hx h (swaps_of hn) hf) fun D σ H ⟨B, S, fs, s, h⟩ => PsS.go s (show PsS W X wx fr B S H D ((evE ev a fs).bind fun v fs => .ok .nx (fs.set i v)) from h) fun v H1 S1 fs1 y s1 e1 r1 h1 => h1.nx (s1.set r1 i) .refl
theorem s_setl {i : Nat} {l : LE} (c : Ct W X ev k wx) (hi : X.N[i]? = some x) (hx : Loc X.env.scope x) (hf : X.fn x = true ∨ X.env.scope.names.lookup x = some .local) (hn : notComp ea = true) (h : PE X ea (rd W X wx (rL W X) (evL ev l))) : PS X (.Assign [.Name x p2] ea p) (rdS W X wx fr (evS ev (.setl i l))) :=
  PS.mono (ps_set c.nd hi hx h (swaps_of hn) hf) fun D σ H ⟨B, S, fs, s, h⟩ => PsS.go s (show PsS W X wx fr B S H D ((evL ev l fs).bind fun xs fs => .ok .nx (putS fs i (.lst xs))) from h) fun v H1 S1 fs1 y s1 e1 ⟨q, us, ev', lo, hq, r1⟩ h1 => by
    subst ev'
    exact h1.nx (s1.own lo i (.lst lo.1 hq r1)) .refl
theorem s_setd {i : Nat} {d : DE} (c : Ct W X ev k wx) (hi : X.N[i]? = some x) (hx : Loc X.env.scope x) (hf : X.fn x = true ∨ X.env.scope.names.lookup x = some .local) (hn : notComp ea = true) (h : PE X ea (rd W X wx (rD W X) (evD ev d))) : PS X (.Assign [.Name x p2] ea p) (rdS W X wx fr (evS ev (.setd i d))) :=
  PS.mono (ps_set c.nd hi hx h (swaps_of hn) hf) fun D σ H ⟨B, S, fs, s, h⟩ => PsS.go s (show PsS W X wx fr B S H D ((evD ev d fs).bind fun kvs fs => .ok .nx (putS fs i (.dic kvs))) from h) fun v H1 S1 fs1 y s1 e1 ⟨q, us, ev', lo, hq, n, r1⟩ h1 => by
    subst ev'
    exact h1.nx (s1.own lo i (.dic lo.1 hq n r1)) .refl
/-- no pair that Python stores from the right -/
def wOk : Expr → Bool
  | .Tuple vs _ _ => vs.all (foldedForSure 8)
  | _ => true
theorem swapped_of {e : Expr} {env : Env} {es : List Expr} {j : Nat} {p : Pos} (h : wOk e = true) : swappedStores [.Tuple es j p] e env = pure none := by
  cases e <;> first
    | rfl
    | skip
  rename_i vs k' p'
  have h : vs.all (foldedForSure 8) = true := h
  unfold swappedStores
  simp only [h, if_true]
  (repeat' split) <;> rfl
theorem s_unp {is : List Nat} {j : Nat} (c : Ct W X ev k wx) (hs : nmOk X es is) (hw : wOk ea = true) (h : PE X ea (rd W X wx (rV W X) (evE ev a))) : PS X (.Assign [.Tuple es j p2] ea p) (rdS W X wx fr (evS ev (.unp is a))) :=
  PS.mono (ps_asg h (g_t (W := W) c.calm c.nd hs) (swaps_tup : swapsWith ea (some (.Tuple es j p2)) p.line X.env = pure false) (swapped_of hw) (by rfl)) fun D σ H ⟨B, S, fs, s, h⟩ => PsS.go s (show PsS W X wx fr B S H D ((evE ev a fs).bind fun v fs => match v with
    | .tup vs => match setAll is vs fs with
      | some fs => .ok .nx fs
      | none => .no
    | _ => .no) from h) fun v H1 S1 fs1 y s1 e1 r1 h1 => by
      cases y with
      | tup ys =>
        have h1 : PsS W X wx fr B S1 H1 D (match setAll is ys fs1 with
          | some fs => .ok .nx fs
          | none => .no) := h1
        cases e : setAll is ys fs1 with
        | none => rw [e] at h1; exact h1.elim
        | some f2 =>
          rw [e] at h1
          exact ⟨B, S1, fs1, _, f2, s1, r1, e, fun σ' s2 _ => h1.nx s2 .refl⟩
      | _ => exact h1.elim
theorem putF_rep {an : Nat → Str} {j : Nat} {v : V} {z : PV} : ∀ {fl : List (Str × V)} {fl' : List (Nat × PV)}, (∀ q ∈ fl', an q.1 = an j → q.1 = j) → fl.map (·.1) = fl'.map (fun q => an q.1) → Reps W X.K X.w S H (fl.map (·.2)) (fl'.map (·.2)) → Rep W X.K X.w S H v z →
    (putF (an j) v fl).map (·.1) = (fPut fl' j z).map (fun q => an q.1) ∧ Reps W X.K X.w S H ((putF (an j) v fl).map (·.2)) ((fPut fl' j z).map (·.2))
  | [], [], _, _, _, rz => ⟨rfl, .cons rz .nil⟩
  | [], _ :: _, _, n, _, _ => by cases n
  | _ :: _, [], _, n, _, _ => by cases n
  | (g, u) :: fl, (kk, y) :: fl', inj, n, r, rz => by
    have n1 : g = an kk := (List.cons.inj n).1
    have n2 := (List.cons.inj n).2
    cases r with
    | cons r1 r2 =>
      unfold putF fPut
      cases e : Nat.beq kk j with
      | true =>
        have ek := Nat.eq_of_beq_eq_true e
        rw [if_pos (by rw [n1, ek])]
        exact ⟨by show g :: fl.map (·.1) = an kk :: fl'.map (fun q => an q.1); rw [n1, n2], .cons rz r2⟩
      | false =>
        have ne : ¬ g = an j := fun z' => by
          have e2 : kk = j := inj (kk, y) (List.mem_cons_self ..) (n1.symm.trans z')
          rw [e2, Nat.beq_refl] at e
          cases e
        rw [if_neg ne]
        obtain ⟨a1, a2⟩ := putF_rep (fun q m => inj q (List.mem_cons_of_mem _ m)) n2 r2 rz
        exact ⟨by show g :: _ = an kk :: _; rw [n1, a1], .cons r1 a2⟩
theorem fPut_mem {j : Nat} {z : PV} : ∀ {fl : List (Nat × PV)} {q : Nat × PV}, q ∈ fPut fl j z → q.1 = j ∨ ∃ q' ∈ fl, q'.1 = q.1
  | [], q, h => by
    have : q = (j, z) := by simpa [fPut] using h
    exact .inl (by rw [this])
  | (kk, y) :: r, q, h => by
    unfold fPut at h
    cases e : Nat.beq kk j with
    | true =>
      rw [e] at h
      rcases List.mem_cons.mp h with h | h
      · exact .inl (by rw [h]; exact Nat.eq_of_beq_eq_true e)
      · exact .inr ⟨q, List.mem_cons_of_mem _ h, rfl⟩
    | false =>
      rw [e] at h
      rcases List.mem_cons.mp h with h | h
      · exact .inr ⟨(kk, y), List.mem_cons_self .., by rw [h]⟩
      · rcases fPut_mem h with h | ⟨q', h1, h2⟩
        · exact .inl h
        · exact .inr ⟨q', List.mem_cons_of_mem _ h1, h2⟩
/-- a store into an object of the own heap -/
theorem putF_go (c : Ct W X ev k wx) {v u : V} {y z : PV} {fk : Nat} (s : Sim W X.K X.w B S fs σ H) (r : Rep W X.K X.w S H v y) (rz : Rep W X.K X.w S H u z) (h : PsS W X wx fr B S H D (putF' W.G y fk z fs)) :
    ∃ a C dx fl, v = .ref a ∧ H a = some (.ins C dx fl) ∧ Cls X.K C ∧ NoAttr X.K C (W.an fk) ∧ fl.length < 1000 ∧ D.nx σ (upd H a (.ins C dx (putF (W.an fk) u fl))) := by
  cases y with
  | obj a =>
    obtain ⟨q, rfl, hp⟩ := r.obj_inv
    obtain ⟨uu, hu, ob⟩ := s.hi.at hp
    unfold putF' at h
    simp only [hu] at h
    cases ob with
    | lst h' r => exact h.elim
    | dic h' k r => exact h.elim
    | @ins dx fl cc fl' h1 n l r' =>
      obtain ⟨cl, g, l2⟩ := l
      simp only [g] at h
      split at h
      · rename_i cond
        obtain ⟨c1, c2, c3⟩ := cond
        have e0 : Ext S H S (upd H q (.ins (ca W X.K cc) dx (putF (W.an fk) u fl))) := ⟨fun _ f => f, fun b f => upd_ne fun z => s.hi.dis q (List.mem_of_getElem? hp) (z ▸ f), fun _ _ h => h⟩
        obtain ⟨a1, a2⟩ := putF_rep (an := W.an) (j := fk) (fun q mq => c.kf.inj cc cl q.1 fk g (l2 q mq) c3) n r' rz
        obtain ⟨s2, e2⟩ := s.put (u := .ins cc (fPut fl' fk z)) (o := .ins (ca W X.K cc) dx (putF (W.an fk) u fl)) hp (.ins upd_same a1 ⟨cl, g, fun q mq => (fPut_mem mq).elim (fun e => e ▸ c3) fun ⟨q', m1, m2⟩ => m2 ▸ l2 q' m1⟩ (a2.ext e0))
        have ll : fl.length = fl'.length := by simpa using congrArg List.length n
        exact ⟨q, _, dx, fl, rfl, h1, c.kf.cls cc cl g c1, c.kf.noat cc cl fk g c1 c3, by rw [ll]; omega, h.nx s2 e2⟩
      · exact h.elim
  | _ => exact h.elim
theorem s_setf {fk : Nat} (c : Ct W X ev k wx) (ho : PE X o (rd W X wx (rV W X) (evE ev a))) (he : PE X ea (rd W X wx (rV W X) (evE ev e))) : PS X (.Assign [.Attribute o (W.an fk) p2] ea p) (rdS W X wx fr (evS ev (.setf a fk e))) :=
  PS.mono (ps_fld ho he swaps_attr) fun D σ H ⟨B, S, fs, s, h⟩ => PsS.go s (show PsS W X wx fr B S H D ((evE ev e fs).bind fun y fs => (evE ev a fs).bind fun x fs => putF' ev.G x fk y fs) from h) fun v H1 S1 fs1 y s1 e1 r1 h1 => PsS.go s1 h1 fun u H2 S2 fs2 z s2 e2 r2 h2 => by
    rw [c.g] at h2
    exact putF_go c s2 r2 (Rep.ext e2 r1) h2
theorem s_augf {fk : Nat} {bo : BO} (c : Ct W X ev k wx) (hx : ∀ cc cl, W.G.cls cc = some cl → cl.exc = true → cl.flds = []) (ho : PE X o (rd W X wx (rV W X) (evE ev a))) (he : PE X ea (rd W X wx (rV W X) (evE ev e))) : PS X (.AugAssign (.Attribute o (W.an fk) p2) (opB bo) ea p) (rdS W X wx fr (evS ev (.augf a fk bo e))) :=
  PS.mono (ps_fldaug ho he (fun pins s σ H x y u v Q I rx ry q => rA_ok bo pins s σ H x y u v Q I rx ry q)) fun D σ H ⟨B, S, fs, s, h⟩ => PsS.go s (show PsS W X wx fr B S H D ((evE ev a fs).bind fun x fs => match fldV ev.G fs.hp x fk with
    | some v => (evE ev e fs).bind fun y fs1 => if clOf fs1.hp x = clOf fs.hp x then (match evAug bo v y with
      | some z => putF' ev.G x fk z fs1
      | none => .no) else .no
    | none => .no) from h) fun v H1 S1 fs1 y s1 e1 r1 h1 => by
      rw [c.g] at h1
      cases ef : fldV W.G fs1.hp y fk with
      | none => rw [ef] at h1; exact h1.elim
      | some fv =>
        rw [ef] at h1
        obtain ⟨a', C, dx, fl, u, q1, q2, q3, q4, q5, r2⟩ := fld_rep c s1.hi r1 ef hx
        refine ⟨a', C, dx, fl, u, q1, q2, q3, q4, q5, PsS.go s1 h1 fun w H2 S2 fs2 z s2 e2 r3 h2 => ?_⟩
        by_cases ecl : clOf fs2.hp y = clOf fs1.hp y
        case neg => rw [if_neg ecl] at h2; exact h2.elim
        rw [if_pos ecl] at h2
        cases ea' : evAug bo fv z with
        | none => rw [ea'] at h2; exact h2.elim
        | some zz =>
          rw [ea'] at h2
          refine aug_rd bo (r2.ext e2) r3 ea' fun w' rw' => ?_
          obtain ⟨a2, C2, dx2, fl2, g1, g2, g3, g4, g5, g6⟩ := putF_go c s2 (Rep.ext e2 r1) rw' h2
          rw [q1] at g1
          cases g1
          -- the same object
          have hC : C2 = C := by
            have has : ∃ cc, clOf fs1.hp y = some cc := by
              cases y with
              | ins cc xs => exact ⟨cc, rfl⟩
              | obj a0 =>
                have ef : (match fs1.hp[a0]? with
                  | some (.ins _ fs) => fGet fs fk
                  | _ => none) = some fv := ef
                show ∃ cc, (match fs1.hp[a0]? with
                  | some (.ins c _) => some c
                  | _ => none) = some cc
                cases q : fs1.hp[a0]? with
                | none => rw [q] at ef; cases ef
                | some u0 =>
                  rw [q] at ef
                  cases u0 with
                  | ins c0 f0 => exact ⟨c0, rfl⟩
                  | _ => cases ef
              | _ => cases ef
            obtain ⟨cc, hcc⟩ := has
            obtain ⟨b1, _, _, _, k1, k2, _⟩ := clOf_rep s1.hi r1 hcc
            obtain ⟨b2, _, _, _, k3, k4, _⟩ := clOf_rep s2.hi (Rep.ext e2 r1) (ecl.trans hcc)
            rw [q1] at k1 k3
            cases k1
            cases k3
            rw [q2] at k2
            rw [g2] at k4
            cases k2
            cases k4
            rfl
          subst hC
          exact ⟨dx2, fl2, g2, g5, g6⟩
end
end U
namespace U
open PySem PySem.Spec L2 PyProof.Rows
section
variable {W : Wd} {X : Cx} {wx : WX} {ev : Ev} {k : Nat} {es : List Expr} {kws : List Keyword} {cs : Es} {x : Str} {p pos apos p2 : Pos} {Q : VK} {B : Base} {S S' S2 : Syn} {fs fs' : FS} {σ σ' : L2.St} {H H' H2 : Hp} {f : Nat} {vs : List V} {args : List PV} {o : Expr} {m : Nat} {a b e e2 e3 : E} {ea eb ec : Expr} {t u : T} {h : Hb} {lo hi : Option Expr} {ol oh : O} {fr : Bool} {D : Ends}
/-- self.f = value, in an __init__ of a frozen class -/
theorem s_setr {fk : Nat} (c : Ct W X ev k wx) (hN : X.N[0]? = some x) (hv : Vis X.env.scope x) (hd : (x == ("__debug__" : Str)) = false) (hcd : (x == ("__classdict__" : Str)) = false) (he : PE X ea (rd W X wx (rV W X) (evE ev e))) : PS X (.Assign [.Attribute (.Name x pos) (W.an fk) p2] ea p) (rdS W X wx fr (evS ev (.setr fk e))) :=
  PS.mono (ps_fld (pe_var (pos := pos) hN hv hd hcd) he swaps_attr) fun D σ H ⟨B, S, fs, s, h⟩ => PsS.go s (show PsS W X wx fr B S H D ((evE ev e fs).bind fun y fs => putR ev.G fk y fs) from h) fun v H1 S1 fs1 y s1 e1 r1 h1 => by
    rw [c.g] at h1
    unfold putR at h1
    split at h1
    · rename_i cc fl' e0
      obtain ⟨q, u0, e2, o2, hu⟩ := s1.own_at e0 rfl
      have k := s1.sl 0 _ _ e0 e2
      cases k with
      | @own _ dx fl _ _ hme ow h1' n l r' =>
        obtain ⟨cl, g, l2⟩ := l
        simp only [g] at h1
        split at h1
        · rename_i cond
          obtain ⟨c1, c2, c3⟩ := cond
          have e0' : Ext S1 H1 S1 (upd H1 q (.ins (ca W X.K cc) dx (putF (W.an fk) v fl))) := ⟨fun _ f => f, fun b f => upd_ne fun z => ow.1 (z ▸ f), fun _ _ h => h⟩
          obtain ⟨a1, a2⟩ := putF_rep (an := W.an) (j := fk) (fun q mq => c.kf.inj cc cl q.1 fk g (l2 q mq) c3) n r' r1
          obtain ⟨s2, e3⟩ := s1.putOwn (q1 := .own cc (fPut fl' fk y)) (o := .ins (ca W X.K cc) dx (putF (W.an fk) v fl)) e0 rfl e2 (.own hme ow upd_same a1 ⟨cl, g, fun q mq => (fPut_mem mq).elim (fun e => e ▸ c3) fun ⟨q', m1, m2⟩ => m2 ▸ l2 q' m1⟩ (a2.ext e0'))
          have ll : fl.length = fl'.length := by simpa using congrArg List.length n
          exact ⟨_, e2, q, _, dx, fl, rfl, h1', c.kf.cls cc cl g c1, c.kf.noat cc cl fk g c1 c3, by rw [ll]; omega, h1.nx s2 e3⟩
        · exact h1.elim
    · exact h1.elim
def rPutD : TSet := fun o i v H Q => ∃ a H', o = .ref a ∧ DPut H a i v H' ∧ Q H'
def rPut : TSet := fun o i v H Q => rSetL o i v H Q ∨ rPutD o i v H Q
theorem put_ok (hu : X.A.units + 1 < cLine) : PSet X rPut := by
  intro pins s σ H o i v ov iv u Q I ro ri rv h
  rcases h with h | ⟨a, H', rfl, g, q⟩
  · exact set_list pins s σ H o i v ov iv u Q I ro ri rv h
  · obtain rfl : ov = Value.ref a := ro
    exact d_setItem hu I g ri rv fun s4 I4 => ⟨H', I4, q⟩
theorem any_keys {kk : Key} : ∀ {us : List (Key × V)} {kvs : List (Key × PV)}, us.map (·.1) = kvs.map (·.1) → (us.any fun kv => decide (kv.1 = kk)) = (kvs.any fun kv => decide (kv.1 = kk))
  | [], [], _ => rfl
  | [], _ :: _, e => by cases e
  | _ :: _, [], e => by cases e
  | u :: us, q :: kvs, e => by
    rw [List.any_cons, List.any_cons, any_keys (List.cons.inj e).2, show u.1 = q.1 from (List.cons.inj e).1]
theorem dPut_map {v : V} {z : PV} {kk : Key} : ∀ {us : List (Key × V)} {kvs : List (Key × PV)}, us.map (·.1) = kvs.map (·.1) → Reps W X.K X.w S H (us.map (·.2)) (kvs.map (·.2)) → Rep W X.K X.w S H v z →
    (us.map fun kv => if kv.1 = kk then (kv.1, v) else kv).map (·.1) = (kvs.map fun kv => if kv.1 = kk then (kv.1, z) else kv).map (·.1) ∧ Reps W X.K X.w S H ((us.map fun kv => if kv.1 = kk then (kv.1, v) else kv).map (·.2)) ((kvs.map fun kv => if kv.1 = kk then (kv.1, z) else kv).map (·.2))
  | [], [], _, _, _ => ⟨rfl, .nil⟩
  | [], _ :: _, e, _, _ => by cases e
  | _ :: _, [], e, _, _ => by cases e
  | (g, u) :: us, (j, y) :: kvs, e, r, rz => by
    have e1 : g = j := (List.cons.inj e).1
    subst e1
    cases r with
    | cons r1 r2 =>
      obtain ⟨a1, a2⟩ := dPut_map (kk := kk) (List.cons.inj e).2 r2 rz
      by_cases c : g = kk
      · refine ⟨?_, ?_⟩
        · simp only [List.map_cons, if_pos c]
          exact congrArg (g :: ·) a1
        · simp only [List.map_cons, if_pos c]
          exact .cons rz a2
      · refine ⟨?_, ?_⟩
        · simp only [List.map_cons, if_neg c]
          exact congrArg (g :: ·) a1
        · simp only [List.map_cons, if_neg c]
          exact .cons r1 a2
theorem dPut_rep {v : V} {z : PV} {kk : Key} {us : List (Key × V)} {kvs : List (Key × PV)} (e : us.map (·.1) = kvs.map (·.1)) (r : Reps W X.K X.w S H (us.map (·.2)) (kvs.map (·.2))) (rz : Rep W X.K X.w S H v z) :
    (putK us kk v).map (·.1) = (dPut kvs kk z).map (·.1) ∧ Reps W X.K X.w S H ((putK us kk v).map (·.2)) ((dPut kvs kk z).map (·.2)) := by
  unfold putK dPut
  rw [any_keys e]
  by_cases c : (kvs.any fun kv => decide (kv.1 = kk)) = true
  · rw [if_pos c, if_pos c]
    exact dPut_map e r rz
  · rw [if_neg c, if_neg c]
    rw [List.map_append, List.map_append, List.map_append, List.map_append]
    exact ⟨by rw [e]; rfl, r.app (.cons rz .nil)⟩
theorem putI_go {v u w : V} {y i z : PV} (s : Sim W X.K X.w B S fs σ H) (r : Rep W X.K X.w S H v y) (ri : Rep W X.K X.w S H u i) (rz : Rep W X.K X.w S H w z) (h : PsS W X wx fr B S H D (putI y i z fs)) : rPut v u w H fun H' => D.nx σ H' := by
  cases y with
  | obj a =>
    obtain ⟨q, rfl, hp⟩ := r.obj_inv
    obtain ⟨uu, hu, ob⟩ := s.hi.at hp
    unfold putI at h
    simp only [hu] at h
    have eup : ∀ {o' : HO}, Ext S H S (upd H q o') := fun {o'} => ⟨fun _ f => f, fun b f => upd_ne fun z => s.hi.dis q (List.mem_of_getElem? hp) (z ▸ f), fun _ _ h => h⟩
    cases ob with
    | ins h' n l r => exact h.elim
    | @lst ys xs h' r' =>
      cases i with
      | int n =>
        cases ej : ixN xs.length n with
        | none => simp only [ej] at h; exact h.elim
        | some j =>
          simp only [ej] at h
          obtain ⟨s2, e2⟩ := s.put (u := .lst (xs.set j z)) (o := .lst (ys.set j w)) hp (.lst upd_same ((Reps.set rz j r').ext eup))
          exact .inl ⟨q, ys, n, j, rfl, ri.int_inv, h', by rw [r'.len]; exact ej, h.nx s2 e2⟩
      | _ => exact h.elim
    | @dic us kvs h' n r' =>
      cases ek : keyOf i with
      | none => simp only [ek] at h; exact h.elim
      | some kk =>
        simp only [ek] at h
        split at h
        · rename_i lt
          obtain ⟨a1, a2⟩ := dPut_rep (kk := kk) n r' rz
          obtain ⟨s2, e2⟩ := s.put (u := .dic (dPut kvs kk z)) (o := .dK (putK us kk w)) hp (.dic upd_same a1 (a2.ext eup))
          have ll : us.length = kvs.length := by simpa using congrArg List.length n
          rw [keyOf_rep ri ek]
          exact .inr ⟨q, _, rfl, DPut.k h' (by rw [ll, sizeLine_eq]; omega), h.nx s2 e2⟩
        · exact h.elim
  | _ => exact h.elim
theorem putJ_go {j : Nat} {v u w : V} {i z : PV} (s : Sim W X.K X.w B S fs σ H) (hv : σ[j]? = some (some v)) (ri : Rep W X.K X.w S H u i) (rz : Rep W X.K X.w S H w z) (h : PsS W X wx fr B S H D (putJ j i z fs)) : rPut v u w H fun H' => D.nx σ H' := by
  unfold putJ at h
  split at h
  · rename_i xs e0
    have q := s.sl j _ _ e0 hv
    cases q with
    | @lst q ys _ ow h' r' =>
      cases i with
      | int n =>
        cases ej : ixN xs.length n with
        | none => simp only [ej] at h; exact h.elim
        | some jj =>
          simp only [ej] at h
          have eup : Ext S H S (upd H q (.lst (ys.set jj w))) := ⟨fun _ f => f, fun b f => upd_ne fun z => ow.1 (z ▸ f), fun _ _ h => h⟩
          obtain ⟨s2, e2⟩ := s.putOwn (q1 := .lst (xs.set jj z)) (o := .lst (ys.set jj w)) e0 rfl hv (.lst ow upd_same ((Reps.set rz jj r').ext eup))
          exact .inl ⟨q, ys, n, jj, rfl, ri.int_inv, h', by rw [r'.len]; exact ej, h.nx s2 e2⟩
      | _ => exact h.elim
  · rename_i kvs e0
    have q := s.sl j _ _ e0 hv
    cases q with
    | @dic q us _ ow h' n r' =>
      cases ek : keyOf i with
      | none => simp only [ek] at h; exact h.elim
      | some kk =>
        simp only [ek] at h
        split at h
        · rename_i lt
          obtain ⟨a1, a2⟩ := dPut_rep (kk := kk) n r' rz
          have eup : Ext S H S (upd H q (.dK (putK us kk w))) := ⟨fun _ f => f, fun b f => upd_ne fun z => ow.1 (z ▸ f), fun _ _ h => h⟩
          obtain ⟨s2, e2⟩ := s.putOwn (q1 := .dic (dPut kvs kk z)) (o := .dK (putK us kk w)) e0 rfl hv (.dic ow upd_same a1 (a2.ext eup))
          have ll : us.length = kvs.length := by simpa using congrArg List.length n
          rw [keyOf_rep ri ek]
          exact .inr ⟨q, _, rfl, DPut.k h' (by rw [ll, sizeLine_eq]; omega), h.nx s2 e2⟩
        · exact h.elim
  · exact h.elim
theorem s_seti (c : Ct W X ev k wx) (hs : notSlice eb = true) (ho : PE X ea (rd W X wx (rV W X) (evE ev a))) (hi : PE X eb (rd W X wx (rV W X) (evE ev b))) (he : PE X ec (rd W X wx (rV W X) (evE ev e))) : PS X (.Assign [.Subscript ea eb p2] ec p) (rdS W X wx fr (evS ev (.seti a b e))) :=
  PS.mono (ps_asg he (pg_sub ho hi (put_ok (by have := c.u0; omega)) (asgSub_of hs)) (swaps_sub : swapsWith ec (some (.Subscript ea eb p2)) p.line X.env = pure false) (by rfl) (by rfl)) fun D σ H ⟨B, S, fs, s, h⟩ =>
    PsS.go s (show PsS W X wx fr B S H D ((evE ev e fs).bind fun v fs => (evE ev a fs).bind fun x fs => (evE ev b fs).bind fun y fs => putI x y v fs) from h) fun v H1 S1 fs1 y s1 e1 r1 h1 => PsS.go s1 h1 fun u H2 S2 fs2 z s2 e2 r2 h2 => PsS.go s2 h2 fun w H3 S3 fs3 i s3 e3 r3 h3 =>
      putI_go s3 (Rep.ext e3 r2) r3 ((Rep.ext e2 r1).ext e3) h3
theorem slOwn_at {i : Nat} (s : Sim W X.K X.w B S fs σ H) (h : slOwn fs i = true) : ∃ v, σ[i]? = some (some v) := by
  unfold slOwn at h
  split at h
  · rename_i xs e0
    obtain ⟨q, u, e2, _⟩ := s.own_at e0 rfl
    exact ⟨_, e2⟩
  · rename_i xs e0
    obtain ⟨q, u, e2, _⟩ := s.own_at e0 rfl
    exact ⟨_, e2⟩
  · cases h
theorem s_seto {i : Nat} (c : Ct W X ev k wx) (hs : notSlice eb = true) (hN : X.N[i]? = some x) (hv : Vis X.env.scope x) (hd : (x == ("__debug__" : Str)) = false) (hcd : (x == ("__classdict__" : Str)) = false) (hi : PE X eb (rd W X wx (rV W X) (evE ev b))) (he : PE X ec (rd W X wx (rV W X) (evE ev e))) :
    PS X (.Assign [.Subscript (.Name x pos) eb p2] ec p) (rdS W X wx fr (evS ev (.seto i b e))) :=
  PS.mono (ps_asg he (pg_sub (pe_var (pos := pos) hN hv hd hcd) hi (put_ok (by have := c.u0; omega)) (asgSub_of hs)) (swaps_sub : swapsWith ec (some (.Subscript (.Name x pos) eb p2)) p.line X.env = pure false) (by rfl) (by rfl)) fun D σ H ⟨B, S, fs, s, h⟩ =>
    PsS.go s (show PsS W X wx fr B S H D ((evE ev e fs).bind fun v fs => match slOwn fs i with
      | true => (evE ev b fs).bind fun y fs => putJ i y v fs
      | false => .no) from h) fun v H1 S1 fs1 y s1 e1 r1 h1 => by
        cases eo : slOwn fs1 i with
        | false => rw [eo] at h1; exact h1.elim
        | true =>
          rw [eo] at h1
          obtain ⟨u, hu⟩ := slOwn_at s1 eo
          exact ⟨u, hu, PsS.go s1 h1 fun w H2 S2 fs2 z s2 e2 r2 h2 => putJ_go s2 hu r2 (Rep.ext e2 r1) h2⟩
theorem s_aug {i : Nat} {bo : BO} (c : Ct W X ev k wx) (hi : X.N[i]? = some x) (hx : Loc X.env.scope x) (hf : X.fn x = true ∨ X.env.scope.names.lookup x = some .local) (he : PE X ea (rd W X wx (rV W X) (evE ev e))) : PS X (.AugAssign (.Name x p2) (opB bo) ea p) (rdS W X wx fr (evS ev (.aug i bo e))) :=
  PS.mono (ps_aug c.nd hi hx he (fun pins s σ H x y v u Q I rx ry q => rA_ok bo pins s σ H x y v u Q I rx ry q) hf) fun D σ H ⟨B, S, fs, s, h⟩ => by
    have h : PsS W X wx fr B S H D (match fs.get i with
      | some x => (evE ev e fs).bind fun y fs => match evAug bo x y with
        | some z => .ok .nx (fs.set i z)
        | none => .no
      | none => .no) := h
    cases eg : fs.get i with
    | none => rw [eg] at h; exact h.elim
    | some x =>
      rw [eg] at h
      obtain ⟨v, e1, r⟩ := s.get eg
      refine ⟨v, e1, PsS.go s h fun w H2 S2 fs2 z s2 e2 r2 h2 => ?_⟩
      cases ea' : evAug bo x z with
      | none => rw [ea'] at h2; exact h2.elim
      | some zz =>
        rw [ea'] at h2
        exact aug_rd bo (r.ext e2) r2 ea' fun w' rw' => h2.nx (s2.set rw' i) .refl
theorem s_augo {j : Nat} {bo : BO} (c : Ct W X ev k wx) (hs : notSlice eb = true) (hN : X.N[j]? = some x) (hv : Vis X.env.scope x) (hd : (x == ("__debug__" : Str)) = false) (hcd : (x == ("__classdict__" : Str)) = false) (hi : PE X eb (rd W X wx (rV W X) (evE ev b))) (he : PE X ec (rd W X wx (rV W X) (evE ev e))) :
    PS X (.AugAssign (.Subscript (.Name x pos) eb p2) (opB bo) ec p) (rdS W X wx fr (evS ev (.augo j b bo e))) :=
  PS.mono (ps_daug (by have := c.u0; omega) (pe_var (pos := pos) hN hv hd hcd) hi he (fun pins s σ H x y u v Q I rx ry q => rA_ok bo pins s σ H x y u v Q I rx ry q) (aug_of hs)) fun D σ H ⟨B, S, fs, s, h⟩ => by
    have h : PsS W X wx fr B S H D (match slOwn fs j with
      | true => (evE ev b fs).bind fun i fs => match ownI j i fs with
        | some v => (evE ev e fs).bind fun y fs => match evAug bo v y with
          | some z => putJD j i z fs
          | none => .no
        | none => .no
      | false => .no) := h
    cases eo : slOwn fs j with
    | false => rw [eo] at h; exact h.elim
    | true =>
      rw [eo] at h
      obtain ⟨u, hu⟩ := slOwn_at s eo
      refine ⟨u, hu, PsS.go s h fun w H2 S2 fs2 i s2 e2 r2 h2 => ?_⟩
      cases ei : ownI j i fs2 with
      | none => rw [ei] at h2; exact h2.elim
      | some v =>
        rw [ei] at h2
        unfold ownI at ei
        split at ei
        · rename_i kvs e0
          obtain ⟨kk, ek, eg⟩ := Option.bind_eq_some_iff.mp ei
          have q := s2.sl j _ _ e0 hu
          cases q with
          | @dic q us _ ow h' n r' =>
            have g := dGet_val (W := W) (K := X.K) (w := X.w) kk n r'
            rw [eg] at g
            obtain ⟨v', g1, g2⟩ := g
            refine ⟨q, v', rfl, by rw [keyOf_rep r2 ek, ← g1]; exact DGet.k h', PsS.go s2 h2 fun w2 H3 S3 fs3 z s3 e3 r3 h3 => ?_⟩
            cases ea' : evAug bo v z with
            | none => rw [ea'] at h3; exact h3.elim
            | some zz =>
              rw [ea'] at h3
              have h3 : PsS W X wx fr B S3 H3 D (putJD j i zz fs3) := h3
              refine aug_rd bo (g2.ext e3) r3 ea' fun w' rw' => ?_
              unfold putJD at h3
              split at h3
              · rename_i kvs3 e4
                have q3 := s3.sl j _ _ e4 hu
                cases q3 with
                | @dic _ us3 _ ow3 h3' n3 r3' =>
                  simp only [ek] at h3
                  split at h3
                  · rename_i lt
                    obtain ⟨a1, a2⟩ := dPut_rep (kk := kk) n3 r3' rw'
                    have eup : Ext S3 H3 S3 (upd H3 q (.dK (putK us3 kk w'))) := ⟨fun _ f => f, fun b f => upd_ne fun z => ow3.1 (z ▸ f), fun _ _ h => h⟩
                    obtain ⟨s4, e5⟩ := s3.putOwn (q1 := .dic (dPut kvs3 kk zz)) (o := .dK (putK us3 kk w')) e4 rfl hu (.dic ow3 upd_same a1 (a2.ext eup))
                    have ll : us3.length = kvs3.length := by simpa using congrArg List.length n3
                    rw [keyOf_rep r2 ek]
                    exact ⟨_, DPut.k h3' (by rw [ll, sizeLine_eq]; omega), h3.nx s4 e5⟩
                  · exact h3.elim
              · exact h3.elim
        · cases ei
theorem s_ite {la lb : List Stmt} {xa xb : Ss} (hc : PT X ea (rd W X wx rB1 (evT ev t))) (h1 : PSs X la (rdS W X wx fr (evSs ev xa))) (h2 : PSs X lb (rdS W X wx fr (evSs ev xb))) : PS X (.If ea la lb p) (rdS W X wx fr (evS ev (.ite t xa xb))) :=
  PS.mono (ps_if hc h1 h2) fun D σ H ⟨B, S, fs, s, h⟩ => PsS.go s (show PsS W X wx fr B S H D ((evT ev t fs).bind fun k fs => match k with
    | true => evSs ev xa fs
    | false => evSs ev xb fs) from h) fun v H1 S1 fs1 y s1 e1 r1 h1 => by
      cases (show v = y from r1)
      cases v with
      | true => exact ⟨B, S1, fs1, s1, h1⟩
      | false => exact ⟨B, S1, fs1, s1, h1⟩
theorem ss_nil : PSs X [] (rdS W X wx fr (evSs ev .nil)) := PSs.mono pss_nil fun D σ H ⟨B, S, fs, s, h⟩ => PsS.nx (fs := fs) h s .refl
theorem ss_cons {st : Stmt} {sts : List Stmt} {x0 : U.S} {xs : Ss} (h1 : PS X st (rdS W X wx fr (evS ev x0))) (h2 : PSs X sts (rdS W X wx fr (evSs ev xs))) : PSs X (st :: sts) (rdS W X wx fr (evSs ev (.cons x0 xs))) :=
  PSs.mono (pss_cons h1 h2) fun D σ H ⟨B, S, fs, s, h⟩ => by
    have h : PsS W X wx fr B S H D (match evS ev x0 fs with
      | .ok .nx fs => evSs ev xs fs
      | r => r) := h
    refine ⟨B, S, fs, s, ?_⟩
    cases r : evS ev x0 fs with
    | ok fl f1 =>
      rw [r] at h
      cases fl with
      | nx => exact fun σ' H' S' s' e' => ⟨B, S', f1, s', PsS.later h e'⟩
      | rt v => exact h
      | bk => exact h
      | ct => exact h
    | ex c vs f1 => rw [r] at h; exact h
    | no => rw [r] at h; exact h.elim
theorem s_whl {la : List Stmt} {xa : Ss} (hp : PassesOwn (model X.prog X.w) X.A X.env X.xe) (hc : PT X ea (rd W X wx rB1 (evT ev t))) (h1 : PSs X la (rdS W X wx fr (evSs ev xa))) : PS X (.While ea la [] p) (rdS W X wx fr (evS ev (.whl t xa))) :=
  PS.mono (ps_while hp hc h1) fun D σ H ⟨B, S, fs, s, h⟩ => by
    have h : PsS W X wx fr B S H D (whlN (evT ev t) (evSs ev xa) ev.wf fs) := h
    refine ⟨fun m σ H => ∃ S fs, Sim W X.K X.w B S fs σ H ∧ PsS W X wx fr B S H D (whlN (evT ev t) (evSs ev xa) m fs), ⟨ev.wf, S, fs, s, h⟩, ?_⟩
    rintro m σ1 H1 ⟨S1, fs1, s1, h1⟩
    cases m with
    | zero => exact h1.elim
    | succ m =>
      refine PsS.go s1 (show PsS W X wx fr B S1 H1 D ((evT ev t fs1).bind fun b fs1 => match b with
        | false => .ok .nx fs1
        | true => match evSs ev xa fs1 with
          | .ok .nx fs' => whlN (evT ev t) (evSs ev xa) m fs'
          | .ok .ct fs' => whlN (evT ev t) (evSs ev xa) m fs'
          | .ok .bk fs' => .ok .nx fs'
          | .ok (.rt v) fs' => .ok (.rt v) fs'
          | .ex c vs fs' => .ex c vs fs'
          | .no => .no) from h1) fun v H2 S2 fs2 y s2 e2 r2 h2 => ?_
      cases (show v = y from r2)
      cases v with
      | false => exact h2.nx s2 .refl
      | true =>
        rw [if_pos rfl]
        refine ⟨fun σ' H' => ∃ S fs, Sim W X.K X.w B S fs σ' H' ∧ PsS W X wx fr B S H' D (whlN (evT ev t) (evSs ev xa) m fs), fun σ' H' n => ⟨m, Nat.lt_succ_self m, n⟩, B, S2, fs2, s2, ?_⟩
        cases r : evSs ev xa fs2 with
        | ok fl f1 =>
          simp only [r] at h2
          cases fl with
          | nx => exact fun σ' H' S' s' e' => ⟨S', f1, s', PsS.later h2 e'⟩
          | ct => exact fun σ' H' S' s' e' => ⟨S', f1, s', PsS.later h2 e'⟩
          | bk => exact h2
          | rt v => exact h2
        | ex c vs f1 => simp only [r] at h2; exact h2
        | no => simp only [r] at h2; exact h2.elim
def notSet : Expr → Bool
  | .Set .. => false
  | _ => true
theorem notSet_ok {e : Expr} {env : Env} (h : notSet e = true) : ∀ x, foldedSetIterable e env x = pure x := by
  intro x
  cases e <;> first
    | rfl
    | cases h
theorem s_for {tgE iter : Expr} {la : List Stmt} {xa : Ss} {tg : Tg} {it : IE} (c : Ct W X ev k wx) (hp : PassesOwn (model X.prog X.w) X.A X.env X.xe) (hs : notSet iter = true) (hi : PI X tgE iter (rdI W X wx (evI ev it))) (hg : PG X tgE (rG W X tg)) (h1 : PSs X la (rdS W X wx fr (evSs ev xa))) : PS X (.For tgE iter la [] p) (rdS W X wx fr (evS ev (.for_ tg it xa))) :=
  PS.mono (ps_for hp c.calm hi hg h1 (notSet_ok hs)) fun D σ H ⟨B, S, fs, s, h⟩ => PsS.go s (show PsS W X wx fr B S H D ((evI ev it fs).bind fun xs fs => forN (fun v f => match asg tg v f with
    | some f => evSs ev xa f
    | none => .no) xs fs) from h) fun J H1 S1 fs1 xs s1 e1 wk h1 => by
      refine ⟨fun i m σ H => m = xs.length - i ∧ i ≤ xs.length ∧ ∃ S fs, Sim W X.K X.w B S fs σ H ∧ Ext S1 H1 S H ∧ PsS W X wx fr B S1 H1 D (forN (fun v f => match asg tg v f with
          | some f => evSs ev xa f
          | none => .no) (xs.drop i) fs), ⟨xs.length, rfl, Nat.zero_le _, S1, fs1, s1, .refl, h1⟩, ?_⟩
      rintro i m σ2 H2 ⟨rfl, hi, S2, fs2, s2, e2, q⟩
      by_cases hlt : i < xs.length
      · right
        refine ⟨wk.go _ _ i e2 hlt, fun σ3 H3 => ∃ S fs, Sim W X.K X.w B S fs σ3 H3 ∧ Ext S1 H1 S H3 ∧ PsS W X wx fr B S1 H1 D (forN (fun v f => match asg tg v f with
          | some f => evSs ev xa f
          | none => .no) (xs.drop (i + 1)) fs), fun σ3 H3 n => ⟨xs.length - (i + 1), by omega, rfl, hlt, n⟩, fun v H3 y => ?_⟩
        obtain ⟨e3, z, hz, rz⟩ := wk.yld _ _ i v H3 e2 hlt y
        subst e3
        have ed : xs.drop i = z :: xs.drop (i + 1) := by
          rw [List.drop_eq_getElem_cons hlt]
          rw [List.getElem?_eq_getElem hlt] at hz
          cases hz
          rfl
        rw [ed] at q
        cases ea : asg tg z fs2 with
        | none =>
          unfold forN at q
          simp only [ea] at q
          exact q.elim
        | some f3 =>
          unfold forN at q
          simp only [ea] at q
          refine ⟨B, S2, fs2, z, f3, s2, rz, ea, fun σ4 s4 _ => ⟨B, S2, f3, s4, ?_⟩⟩
          cases r : evSs ev xa f3 with
          | ok fl f1 =>
            simp only [r] at q
            cases fl with
            | nx => exact fun σ' H' S' s' e' => ⟨S', f1, s', e2.trans e', q⟩
            | ct => exact fun σ' H' S' s' e' => ⟨S', f1, s', e2.trans e', q⟩
            | bk => exact fun σ' H' S' s' e' => q σ' H' S' s' (e2.trans e')
            | rt v => exact q
          | ex c vs f1 =>
            simp only [r] at q
            exact fun cls d σ' H' S' s' e' rr => q cls d σ' H' S' s' (e2.trans e') rr
          | no => simp only [r] at q; exact q.elim
      · left
        have ei : i = xs.length := by omega
        subst ei
        rw [List.drop_length] at q
        have q : PsS W X wx fr B S1 H1 D (.ok .nx fs2) := q
        exact ⟨wk.stop _ _ _ e2 (Nat.le_refl _), q σ2 H2 S2 s2 e2⟩
end
end U
namespace U
open PySem PySem.Spec L2 PyProof.Rows
section
variable {W : Wd} {X : Cx} {wx : WX} {ev : Ev} {k : Nat} {es : List Expr} {kws : List Keyword} {cs : Es} {x : Str} {p pos apos p2 : Pos} {Q : VK} {B : Base} {S S' S2 : Syn} {fs fs' : FS} {σ σ' : L2.St} {H H' H2 : Hp} {f : Nat} {vs : List V} {args : List PV} {o : Expr} {m : Nat} {a b e e2 e3 : E} {ea eb ec : Expr} {t u : T} {h : Hb} {lo hi : Option Expr} {ol oh : O} {fr : Bool} {D : Ends}
theorem Ct.blk (c : Ct W X ev k wx) {s : Shared} {H : Hp} {scope : Scope} {cenv : Env} {fp : List Addr} : Ct W (X.blk s H scope cenv fp) ev k wxF :=
  ⟨c.kf, c.g, c.fns, c.fnsI, c.room, c.calm, c.nd, takes_none5⟩
theorem q_nil : PTs X [] (rd W X wx rB1 (evTs ev .nil)) := ⟨fun pins s σ H Q I ⟨B, S, fs, si, h⟩ => pts_nil.run pins s σ H Q I (Pst.here (a := true) h si rfl)⟩
theorem q_one (h : PT X ea (rd W X wx rB1 (evT ev t))) : PTs X [ea] (rd W X wx rB1 (evTs ev (.cons t .nil))) :=
  ⟨fun pins s σ H Q I ⟨B, S, fs, si, h'⟩ => (pts_one h).run pins s σ H Q I (Pst.go si (show Pst W X wx rB1 σ B S H Q ((evT ev t fs).bind fun k fs => match k with
    | true => .ok true fs
    | false => .ok false fs) from h') fun v H1 S1 fs1 y s1 e1 r1 h1 => by
      cases (show v = y from r1)
      cases v with
      | true => exact Pst.here (a := true) h1 s1 rfl
      | false => exact Pst.here (a := false) h1 s1 rfl)⟩
section
variable {tgE iter elt : Expr} {ifs : List Expr} {scope : Scope} {own : List (Str × Nat)} {w : List Nat} {tg : Tg} {it : IE} {ts : Ts}
theorem xl_comp (c : Ct W X ev k wx) (ok : BlkOk X.N X.env.scope scope own) (hw : own.map (·.2) = w) (htg : ∀ i ∈ tgIx tg, i ∈ w) (hs : notSet iter = true) (hi : PI X tgE iter (rdI W X wx (evI ev it)))
    (hg : ∀ (s : Shared) (H : Hp) (C : Addr) (cl : List (Str × Addr)) (fp : List Addr), PG (X.blk s H scope (compEnvC scope cl C X.env) fp) tgE (rG W (X.blk s H scope (compEnvC scope cl C X.env) fp) tg))
    (ht : ∀ (s : Shared) (H : Hp) (C : Addr) (cl : List (Str × Addr)) (fp : List Addr), PTs (X.blk s H scope (compEnvC scope cl C X.env) fp) ifs (rd W (X.blk s H scope (compEnvC scope cl C X.env) fp) wxF rB1 (evTs ev ts)))
    (he : ∀ (s : Shared) (H : Hp) (C : Addr) (cl : List (Str × Addr)) (fp : List Addr), PE (X.blk s H scope (compEnvC scope cl C X.env) fp) elt (rd W (X.blk s H scope (compEnvC scope cl C X.env) fp) wxF (rV W (X.blk s H scope (compEnvC scope cl C X.env) fp)) (evE ev a))) :
    PE X (.ListComp elt [⟨tgE, iter, ifs, 0⟩] scope p) (rd W X wx (rL W X) (evL ev (.comp a tg it w ts))) := by
  subst hw
  exact PE.mono (pe_lc c.calm c.nd hi ok hg ht he (notSet_ok hs)) fun σ H Q h => lcR htg h
/-- y = [..], y a name: to a slot that owns it, or as a value -/
theorem s_comp {i : Nat} {y : Str} {spos py : Pos} (c : Ct W X ev k wx) (hy : X.N[i]? = some y) (hyl : X.env.scope.names.lookup y = some .local) (hk : X.env.scope.kind = .function) (hl : (py.line == p.line) = true) (ha : (scope.names.any fun (n, k) => n == y && (k == .local || k == .cell)) = false)
    (ok : BlkOk X.N X.env.scope scope own) (hw : own.map (·.2) = w) (htg : ∀ i ∈ tgIx tg, i ∈ w) (hs : notSet iter = true) (hi : PI X tgE iter (rdI W X wx (evI ev it)))
    (hg : ∀ (s : Shared) (H : Hp) (C : Addr) (cl : List (Str × Addr)) (fp : List Addr), PG (X.blk s H scope (compEnvC scope cl C X.env) fp) tgE (rG W (X.blk s H scope (compEnvC scope cl C X.env) fp) tg))
    (ht : ∀ (s : Shared) (H : Hp) (C : Addr) (cl : List (Str × Addr)) (fp : List Addr), PTs (X.blk s H scope (compEnvC scope cl C X.env) fp) ifs (rd W (X.blk s H scope (compEnvC scope cl C X.env) fp) wxF rB1 (evTs ev ts)))
    (he : ∀ (s : Shared) (H : Hp) (C : Addr) (cl : List (Str × Addr)) (fp : List Addr), PE (X.blk s H scope (compEnvC scope cl C X.env) fp) elt (rd W (X.blk s H scope (compEnvC scope cl C X.env) fp) wxF (rV W (X.blk s H scope (compEnvC scope cl C X.env) fp)) (evE ev a))) :
    PS X (.Assign [.Name y py] (.ListComp elt [⟨tgE, iter, ifs, 0⟩] scope p) spos) (fun D σ H => rd W X wx (rL W X) (evL ev (.comp a tg it w ts)) σ H fun v H1 => D.nx (σ.set i (some v)) H1) := by
  subst hw
  exact PS.mono (ps_setLc c.calm c.nd hy hyl (sw_true hk hyl hl ha) hi ok hg ht he (notSet_ok hs)) fun D σ H h => lcR htg h
end
theorem s_setlC {i : Nat} {l : LE} {st : Stmt} (h : PS X st (fun D σ H => rd W X wx (rL W X) (evL ev l) σ H fun v H1 => D.nx (σ.set i (some v)) H1)) : PS X st (rdS W X wx fr (evS ev (.setl i l))) :=
  PS.mono h fun D σ H ⟨B, S, fs, s, h⟩ => PsS.go s (show PsS W X wx fr B S H D ((evL ev l fs).bind fun xs fs => .ok .nx (putS fs i (.lst xs))) from h) fun v H1 S1 fs1 y s1 e1 ⟨q, us, ev', lo, hq, r1⟩ h1 => by
    subst ev'
    exact h1.nx (s1.own lo i (.lst lo.1 hq r1)) .refl
theorem s_setC {i : Nat} {l : LE} {st : Stmt} (h : PS X st (fun D σ H => rd W X wx (rL W X) (evL ev l) σ H fun v H1 => D.nx (σ.set i (some v)) H1)) : PS X st (rdS W X wx fr (evS ev (.set i (.lst l)))) :=
  PS.mono h fun D σ H ⟨B, S, fs, s, h⟩ => PsS.go s (show PsS W X wx fr B S H D ((evL ev l fs).bind fun xs fs => .ok .nx (fs.set i (.lst xs))) from (by
    have h : PsS W X wx fr B S H D (((evL ev l fs).bind fun xs fs => .ok (.lst xs) fs).bind fun v fs => .ok .nx (fs.set i v)) := h
    cases r : evL ev l fs <;> rw [r] at h <;> exact h)) fun v H1 S1 fs1 y s1 e1 ⟨q, us, ev', lo, hq, r1⟩ h1 => by
    subst ev'
    obtain ⟨s2, e2, r2⟩ := s1.frL lo hq r1
    exact h1.nx (s2.set r2 i) e2
theorem s_setH {i : Nat} {l : LE} {st : Stmt} (h : PS X st (fun D σ H => rd W X wx (rL W X) (evL ev l) σ H fun v H1 => D.nx (σ.set i (some v)) H1)) : PS X st (rdS W X wx fr (evS ev (.set i (.hlst l)))) :=
  PS.mono h fun D σ H ⟨B, S, fs, s, h⟩ => PsS.go s (show PsS W X wx fr B S H D ((evL ev l fs).bind fun xs fs => (newO fs (.lst xs)).bind fun v fs => .ok .nx (fs.set i v)) from (by
    have h : PsS W X wx fr B S H D (((evL ev l fs).bind fun xs fs => newO fs (.lst xs)).bind fun v fs => .ok .nx (fs.set i v)) := h
    cases r : evL ev l fs <;> rw [r] at h <;> exact h)) fun v H1 S1 fs1 y s1 e1 ⟨q, us, ev', lo, hq, r1⟩ h1 => by
    subst ev'
    obtain ⟨s2, e2, r2⟩ := s1.heap lo (.lst hq r1)
    exact PsS.nx (fs := ({ fs1 with hp := fs1.hp ++ [.lst y] } : FS).set i (.obj fs1.hp.length)) h1 (s2.set (.obj r2) i) e2
theorem s_rse {cc : Nat} {cl : Cl} {z : Str} {j : Nat} {q1 q2 q3 : Pos} (c : Ct W X ev k wx) (g : W.G.cls cc = some cl) (ex : cl.exc = true) (fl : cl.flds = []) (hg : Gl X (W.cn cc)) (hd : (W.cn cc == ("__debug__" : Str)) = false) :
    PS X (.Raise (some (.Call (.Name (W.cn cc) q1) [.Constant (.str z) j q2] [] q3)) none p) (rdS W X wx fr (evS ev (.rse cc (.cons (.str z) .nil)))) := by
  obtain ⟨x1, x2, x3⟩ := c.kf.exc cc cl g ex fl
  refine PS.mono (ps_raise c.calm c.tk (pmk_own PySem.F.excBase_ValueError x1 (c.kf.gcl cc cl g) (c.kf.kcl cc cl g) (raises_own x2 x3) hg hd)) fun D σ H ⟨B, S, fs, s, h⟩ => ?_
  have h : PsS W X wx fr B S H D (match ev.G.cls cc with
    | some cl => .ex cc (if cl.flds.length = 0 then [] else [.str z]) fs
    | none => .no) := h
  rw [c.g, g] at h
  have h : PsS W X wx fr B S H D (.ex cc (if cl.flds.length = 0 then [] else [.str z]) fs) := h
  rw [fl] at h
  exact h _ none σ H S s .refl ⟨rfl, rfl, rfl⟩
/-- what an except suite may hold -/
def pvV : PV → Option V
  | .non => some .non
  | .bl b => some (.bl b)
  | .int i => some (.int i)
  | .str z => some (.str z)
  | _ => none
theorem pvV_rep {y : PV} {v : V} (h : pvV y = some v) : Rep W X.K X.w S H v y := by
  cases y <;> cases h
  · exact .n
  · exact .b _
  · exact .i _
  · exact .s _
/-- a suite's reading -/
def rHx (hx : Hx) (v : V) : TS := match hx with
  | .ret _ => fun D _ H => D.rt v H
  | .set i _ => fun D σ H => D.nx (σ.set i (some v)) H
def hxV : Hx → PV
  | .ret y => y
  | .set _ y => y
/-- handlers without a name -/
inductive HdR (W : Wd) (X : Cx) : List ExceptHandler → List Hd → List (Value × (Addr → Value → Option Addr → TS)) → Prop
  | nil : HdR W X [] [] []
  | cons {d : Nat} {dl : Cl} {hx : Hx} {v : V} {b₀ : Stmt} {suite : List Stmt} {np pos' : Pos} {hds : List ExceptHandler} {hs : List Hd} {l : List (Value × (Addr → Value → Option Addr → TS))} (g : W.G.cls d = some dl) (ex : dl.exc = true)
      (hv : pvV (hxV hx) = some v) (hn : Names X (W.cn d) (.ref (ca W X.K d)))
      (hsu : ∀ (a : Addr) (oe : Obj) (cls : Value) (d : Option Addr) (pn : List (Addr × Obj)), Zc cls d oe → (∃ vs, oe.data = .fields vs) → PSs (X.suite a ((a, oe) :: pn)) (b₀ :: suite) (rHx hx v)) (r : HdR W X hds hs l) :
      HdR W X (.ExceptHandler (some (.Name (W.cn d) np)) none (b₀ :: suite) pos' :: hds) (.mk d none hx :: hs) ((.ref (ca W X.K d), fun _ _ _ => rHx hx v) :: l)
theorem HdR.ok {hds : List ExceptHandler} {hs : List Hd} {l : List (Value × (Addr → Value → Option Addr → TS))} (h : HdR W X hds hs l) : HdsOk X hds l := by
  induction h with
  | nil => exact .nil
  | cons g ex hv hn hsu r ih => exact .cons hn (fun a oe cls d pn z q => hsu a oe cls d pn z q) ih
theorem caught_rd (c : Ct W X ev k wx) {cc : Nat} {ws : List PV} {hds : List ExceptHandler} {hs : List Hd} {l : List (Value × (Addr → Value → Option Addr → TS))} (hh : HdR W X hds hs l) (s : Sim W X.K X.w B S' fs σ H') (e0 : Ext S H S' H')
    (h : PsS W X wx fr B S H D (match caught W.G cc hs with
      | some (some (none, hx)) => runHx fs hx
      | some none => .ex cc ws fs
      | _ => .no)) {cls : Value} {d : Option Addr} (x : ExR W X.K cc ws cls d) : wMany X.K wx D l cls d σ H' := by
  induction hh with
  | nil => exact h cls d σ H' S' s e0 x
  | @cons dd dl hx v b₀ suite np pos' hds hs l g ex hv hn hsu r ih =>
    have ec : caught W.G cc (.mk dd none hx :: hs) = (match W.G.cls cc with
      | some cl => match cl.exc, cl.sups.contains dd with
        | true, true => some (some (none, hx))
        | true, false => caught W.G cc hs
        | false, _ => none
      | none => none) := rfl
    rw [ec] at h
    cases gc : W.G.cls cc with
    | none => simp only [gc] at h; exact h.elim
    | some cl =>
      simp only [gc] at h
      cases e1 : cl.exc with
      | false => simp only [e1] at h; exact h.elim
      | true =>
        have xm := c.kf.exm cc cl dd dl gc e1 g ex
        obtain ⟨x1, x2, x3⟩ := x
        subst x1
        cases e2 : cl.sups.contains dd with
        | true =>
          simp only [e1, e2] at h
          refine ⟨true, by rw [xm, e2], fun _ a na => ?_, fun z => by cases z⟩
          cases hx with
          | ret y' =>
            have hv : pvV y' = some v := hv
            cases fr with
            | false => exact h v H' S' s.rel s.hi (pvV_rep hv)
            | true =>
              have h0 : isFr y' = true := h.1
              exfalso
              cases y' <;> first
                | (cases hv; done)
                | (cases h0; done)
          | set i y' =>
            have hv : pvV y' = some v := hv
            exact (show PsS W X wx fr B S H D (.ok .nx (fs.set i y')) from h).nx (s.set (pvV_rep hv) i) e0
        | false =>
          simp only [e1, e2] at h
          exact ⟨false, by rw [xm, e2], (fun z => by cases z), fun _ => ih h⟩
theorem s_try {body : List Stmt} {h₀ : ExceptHandler} {hds : List ExceptHandler} {xa : Ss} {hs : List Hd} {l : List (Value × (Addr → Value → Option Addr → TS))} (c : Ct W X ev k wx) (hst : X.stack = X.env :: X.outer) (hf : X.env.frame = some X.env.locals)
    (hb : ∀ (wx' : WX) (pn : List (Addr × Obj)) (xe : Value → Shared → Prop), Takes (X.tr pn xe) wx' → PassesOwn (model X.prog X.w) X.A X.env xe → PSs (X.tr pn xe) body (rdS W X wx' fr (evSs ev xa))) (hh : HdR W X (h₀ :: hds) hs l) :
    PS X (.Try body (h₀ :: hds) [] [] p) (rdS W X wx fr (evS ev (.try_ xa hs))) :=
  PS.mono (ps_try_many (tb := fun wx' => rdS W X wx' fr (evSs ev xa)) hst hf c.tk (fun wx' pn xe h1 h2 => hb wx' pn xe h1 h2) hh.ok) fun D σ H ⟨B, S, fs, s, h⟩ => by
    have h : PsS W X wx fr B S H D (match evSs ev xa fs with
      | .ex cc ws fs => match caught ev.G cc hs with
        | some (some (none, hx)) => runHx fs hx
        | some none => .ex cc ws fs
        | _ => .no
      | r => r) := h
    refine ⟨B, S, fs, s, ?_⟩
    cases r : evSs ev xa fs with
    | ok fl f1 =>
      rw [r] at h
      cases fl with
      | nx => exact h
      | rt v => exact h
      | bk => exact h
      | ct => exact h
    | ex cc ws f1 =>
      rw [r] at h
      rw [c.g] at h
      exact fun cls d σ' H' S' s' e' x => caught_rd c hh s' e' h x
    | no => rw [r] at h; exact h.elim
end
end U
namespace U
open PySem PySem.Spec L2 PyProof.Rows
/-- where a text stands -/
structure Mt where
  N : List Str
  sc : Scope
  fn : Bool
def opIs : BO → Operator → Bool
  | .add, .Add => true
  | .sub, .Sub => true
  | .mul, .Mult => true
  | .fdiv, .FloorDiv => true
  | .mod, .Mod => true
  | _, _ => false
def opCis : CO → CmpOp → Bool
  | .eq, .Eq => true
  | .ne, .NotEq => true
  | .lt, .Lt => true
  | .le, .LtE => true
  | .gt, .Gt => true
  | .ge, .GtE => true
  | .in_, .In => true
  | .nin, .NotIn => true
  | _, _ => false
theorem opIs_ok {b : BO} {o : Operator} (h : opIs b o = true) : o = opB b := by
  cases b <;> cases o <;> first
    | rfl
    | cases h
theorem opCis_ok {b : CO} {o : CmpOp} (h : opCis b o = true) : o = opC b := by
  cases b <;> cases o <;> first
    | rfl
    | cases h
def notDbg (x : Str) : Bool := !(x == ("__debug__" : Str)) && !(x == ("__classdict__" : Str))
def visK : Option NameKind → Bool
  | some .local => true
  | some .cell => true
  | some .free => true
  | _ => false
def locK : Option NameKind → Bool
  | some .local => true
  | some .cell => true
  | _ => false
def isLoc : Option NameKind → Bool
  | some .local => true
  | _ => false
def isGl : Option NameKind → Bool
  | some .globalImplicit => true
  | _ => false
section
variable (W : Wd) (M : Mt)
def visB (x : Str) (i : Nat) : Bool := decide (M.N[i]? = some x) && visK (M.sc.names.lookup x) && notDbg x
def locB (x : Str) (i : Nat) : Bool := decide (M.N[i]? = some x) && locK (M.sc.names.lookup x) && (M.fn || isLoc (M.sc.names.lookup x))
def glB (x : Str) : Bool := isGl (M.sc.names.lookup x) && notDbg x
def nmB : List Expr → List Nat → Bool
  | [], [] => true
  | .Name x _ :: es, i :: is => locB M x i && nmB es is
  | _, _ => false
def mG (tg : Tg) (e : Expr) : Bool := match tg, e with
  | .n i, .Name x _ => locB M x i
  | .t is, .Tuple es _ _ => nmB M es is
  | _, _ => false
def kwB (l : List (Nat × List Str)) (n : Nat) (kws : List Keyword) : Bool := match kws with
  | [] => true
  | _ => l.any fun p => decide (p = (n, kwNames kws))
def tysB : List TyR → List Expr → Bool
  | [], [] => true
  | r :: rs, .Name x _ :: ns => decide (x = clsName W r) && tyGood W r && glB M x && tysB rs ns
  | _, _ => false
def initOf (c : Nat) : Option (Option Nat) := match W.G.cls c with
  | some cl => match cl.exc, cl.froz with
    | false, true => some cl.init
    | _, _ => none
  | none => none
def initH (c : Nat) : Option Nat := match W.G.cls c with
  | some cl => match cl.exc with
    | false => cl.init
    | true => none
  | none => none
def fnK (f : Nat) : Bool := (W.G.fns f).isSome
def clK (c : Nat) : Bool := (W.G.cls c).isSome
end
def ownOf (N : List Str) (w : List Nat) : List (Str × Nat) := w.map fun i => (N.getD i default, i)
def Mt.blk (M : Mt) (scope : Scope) : Mt := { N := M.N, sc := relS scope M.sc, fn := false }
def sameLine (a b : Pos) : Bool := a.endLine == b.line
/-- what is read alone -/
def mQ : E → Mt → Expr → Bool
  | .var i, M, e => match e with
    | .Name x _ => visB M x i
    | _ => false
  | .int i, _, e => match e with
    | .Constant (.int j) _ _ => decide (i = j)
    | _ => false
  | .str z, _, e => match e with
    | .Constant (.str y) _ _ => decide (z = y)
    | _ => false
  | .ix a b, M, e => match e with
    | .Subscript x y _ => notSlice y && mQ a M x && mQ b M y
    | _ => false
  | _, _, _ => false
mutual
def mE (W : Wd) : E → Mt → Expr → Bool
  | .var i, M, e => match e with
    | .Name x _ => visB M x i
    | _ => false
  | .frz i, M, e => match e with
    | .Name x _ => visB M x i
    | _ => false
  | .int i, _, e => match e with
    | .Constant (.int j) _ _ => decide (i = j)
    | _ => false
  | .str z, _, e => match e with
    | .Constant (.str y) _ _ => decide (z = y)
    | _ => false
  | .bl b, _, e => match e with
    | .Constant (.bool c) _ _ => b == c
    | _ => false
  | .non, _, e => match e with
    | .Constant .none _ _ => true
    | _ => false
  | .gcls c, M, e => match e with
    | .Name x _ => decide (x = W.cn c) && glB M x && clK W c
    | _ => false
  | .gfn f, M, e => match e with
    | .Name x _ => decide (x = (W.fat f).1) && (W.fat f).2.isNone && glB M x && fnK W f
    | _ => false
  | .gc g, M, e => match e with
    | .Name x _ => decide (x = W.gn g) && glB M x && (W.G.gcs g).isSome
    | _ => false
  | .tup es, M, e => match e with
    | .Tuple l _ _ => mEs W es M l []
    | _ => false
  | .lst l, M, e => mL W l M e
  | .hlst l, M, e => mL W l M e
  | .dic d, M, e => mD W d M e
  | .hdic d, M, e => mD W d M e
  | .bin o a b, M, e => match e with
    | .BinOp x op y _ => opIs o op && mE W a M x && mE W b M y
    | _ => false
  | .neg a, M, e => match e with
    | .UnaryOp .USub x _ => mE W a M x
    | _ => false
  | .cmp o a b, M, e => match e with
    | .Compare x [op] [y] _ => opCis o op && !behindInMarks op y && mE W a M x && mE W b M y
    | _ => false
  | .chn o o' a b c, M, e => match e with
    | .Compare x [op, op'] [y, z] _ => opCis o op && opCis o' op' && !lastMarks [op, op'] [y, z] && mE W a M x && mE W b M y && mE W c M z
    | _ => false
  | .andv a b, M, e => match e with
    | .BoolOp .And (x :: y :: rest) p => mE W a M x && (match rest with
      | [] => mE W b M y
      | _ => mE W b M (.BoolOp .And (y :: rest) p))
    | _ => false
  | .orv a b, M, e => match e with
    | .BoolOp .Or (x :: y :: rest) p => mE W a M x && (match rest with
      | [] => mE W b M y
      | _ => mE W b M (.BoolOp .Or (y :: rest) p))
    | _ => false
  | .notv a, M, e => match e with
    | .UnaryOp .Not x _ => mE W a M x
    | _ => false
  | .isn a neg, M, e => match e with
    | .Compare x [op] [.Constant .none _ _] _ => (match op, neg with
      | .Is, false => true
      | .IsNot, true => true
      | _, _ => false) && mE W a M x
    | _ => false
  | .ifx t a b, M, e => match e with
    | .IfExp c x y _ => mT W t M c && mE W a M x && mE W b M y
    | _ => false
  | .fld a k, M, e => match e with
    | .Attribute o f _ => decide (f = W.an k) && notCall0 o && mE W a M o
    | _ => false
  | .ix a b, M, e => match e with
    | .Subscript x y _ => notSlice y && mE W a M x && mE W b M y
    | _ => false
  | .sl a lo hi, M, e => match e with
    | .Subscript x (.Slice l h none _) _ => mE W a M x && mO W lo M l && mO W hi M h
    | _ => false
  | .call f es, M, e => match e with
    | .Call (.Name x _) args kws _ => decide (x = (W.fat f).1) && (W.fat f).2.isNone && glB M x && fnK W f && kwB (W.kw f) args.length kws && mEs W es M args kws
    | _ => false
  | .callv a es, M, e => match e with
    | .Call (.Name x p) args [] _ => (match a with
      | .var i => visB M x i
      | _ => false) && mE W a M (.Name x p) && mEs W es M args []
    | _ => false
  | .mk c es, M, e => match e with
    | .Call (.Name x _) args kws _ => decide (x = W.cn c) && glB M x && (match initOf W c with
      | some (some f) => kwB (W.kw f) (args.length + 1) kws && mEs W es M args kws
      | some none => match args, kws, es with
        | [], [], .nil => true
        | _, _, _ => false
      | none => false)
    | _ => false
  | .mkh c es, M, e => match e with
    | .Call (.Name x _) args kws _ => decide (x = W.cn c) && glB M x && (match initH W c with
      | some f => kwB (W.kw f) (args.length + 1) kws && mEs W es M args kws
      | none => false)
    | _ => false
  | .meth a m es, M, e => match e with
    | .Call (.Attribute o n ap) args kws pos => decide (n = W.mn m) && notCall0 o && sameLine ap pos && decide (args.length + kws.length < 29) && kwB (W.kwm m) args.length kws && mE W a M o && mEs W es M args kws
    | _ => false
  | .bf b es, M, e => match e with
    | .Call (.Name x _) (e0 :: r) [] _ => decide (x = bfName b) && glB M x && mEs W es M (e0 :: r) []
    | _ => false
  | .get2 a b d, M, e => match e with
    | .Call (.Attribute o n ap) [e0, e1] [] pos => decide (n = "get") && notCall0 o && sameLine ap pos && noStars [e0, e1] && mE W a M o && mE W b M e0 && mE W d M e1
    | _ => false
  | .bm m a es, M, e => match e with
    | .Call (.Attribute o n ap) [e0] [] pos => (match m with
      | .count => decide (n = "count")
      | .join => decide (n = "join")
      | _ => false) && notCall0 o && sameLine ap pos && mE W a M o && mEs W es M [e0] []
    | _ => false
  | .mm m a es, M, e => match e with
    | .Call (.Attribute o n ap) args [] pos => notCall0 o && sameLine ap pos && mE W a M o && (match m, args, es with
      | .append, e0 :: r, es => decide (n = "append") && decide (r.length < 20) && mEs W es M (e0 :: r) []
      | .extend, e0 :: r, es => decide (n = "extend") && decide (r.length < 20) && mEs W es M (e0 :: r) []
      | .pop, [], .nil => decide (n = "pop")
      | _, _, _ => false)
    | _ => false
  | .mo m i es, M, e => match e with
    | .Call (.Attribute (.Name x _) n ap) (e0 :: r) [] pos => visB M x i && sameLine ap pos && (match m with
      | .append => decide (n = "append")
      | .extend => decide (n = "extend")
      | _ => false) && decide (r.length < 20) && mEs W es M (e0 :: r) []
    | _ => false
  | .isi a cs, M, e => match e with
    | .Call (.Name x _) [e0, e1] [] _ => decide (x = "isinstance") && glB M x && notStar e0 && mE W a M e0 && (match e1, cs with
      | .Name y _, [r] => decide (y = clsName W r) && tyGood W r && glB M y
      | .Tuple ns _ _, r :: rs => decide (rs.length < 19) && tysB W M (r :: rs) ns
      | _, _ => false)
    | _ => false
def mO (W : Wd) : O → Mt → Option Expr → Bool
  | .n, _, e => e.isNone
  | .e a, M, e => match e with
    | some x => mE W a M x
    | none => false
def mEs (W : Wd) : Es → Mt → List Expr → List Keyword → Bool
  | .nil, _, args, kws => match args, kws with
    | [], [] => true
    | _, _ => false
  | .cons a es, M, args, kws => match args with
    | x :: r => notStar x && mE W a M x && mEs W es M r kws
    | [] => match kws with
      | ⟨some _, x, _⟩ :: r => mE W a M x && mEs W es M [] r
      | _ => false
def mL (W : Wd) : LE → Mt → Expr → Bool
  | .disp es, M, e => match e with
    | .List l _ => mEs W es M l []
    | _ => false
  | .comp a tg it w ts, M, e => match e with
    | .ListComp elt [⟨t, i, ifs, as⟩] scope _ => decide (as = 0) && blkC M.N M.sc scope (ownOf M.N w) && ((tgIx tg).all fun i => w.contains i) && notSet i && mI W it M i && mG (M.blk scope) tg t && mTs W ts (M.blk scope) ifs && mE W a (M.blk scope) elt
    | _ => false
  | .of a, M, e => match e with
    | .Call (.Name x _) [y] [] _ => decide (x = "list") && glB M x && notStar y && mE W a M y
    | _ => false
  | .sl a lo hi, M, e => match e with
    | .Subscript x (.Slice l h none _) _ => mE W a M x && mO W lo M l && mO W hi M h
    | _ => false
  | .cat a b, M, e => match e with
    | .BinOp x op y _ => opIs .add op && mE W a M x && mE W b M y
    | _ => false
  | .rep a b, M, e => match e with
    | .BinOp x op y _ => opIs .mul op && mE W a M x && mE W b M y
    | _ => false
  | .call f es, M, e => match e with
    | .Call (.Name x _) args kws _ => decide (x = (W.fat f).1) && (W.fat f).2.isNone && glB M x && fnK W f && kwB (W.kw f) args.length kws && mEs W es M args kws
    | _ => false
  | .meth a m es, M, e => match e with
    | .Call (.Attribute o n ap) args kws pos => decide (n = W.mn m) && notCall0 o && sameLine ap pos && decide (args.length + kws.length < 29) && kwB (W.kwm m) args.length kws && mE W a M o && mEs W es M args kws
    | _ => false
  | .srtd a, M, e => match e with
    | .Call (.Name x _) [y] [] _ => decide (x = "sorted") && glB M x && notStar y && mE W a M y
    | _ => false
  | .rvs a, M, e => match e with
    | .Subscript x (.Slice none none (some (.UnaryOp .USub (.Constant (.int 1) _ _) _)) _) _ => mE W a M x
    | _ => false
  | .srts a, M, e => match e with
    | .Call (.Name x _) [.Call (.Name y _) [z] [] _] [] _ => decide (x = "sorted") && glB M x && decide (y = "set") && glB M y && notStar z && mE W a M z
    | _ => false
  | .vals a, M, e => match e with
    | .Call (.Name x _) [.Call (.Attribute o n ap) [] [] pos] [] _ => decide (x = "list") && glB M x && decide (n = "values") && notCall0 o && sameLine ap pos && mE W a M o
    | _ => false
def mD (W : Wd) : DE → Mt → Expr → Bool
  | .emp, _, e => match e with
    | .Dict [] [] _ => true
    | _ => false
  | .disp ds, M, e => match ds with
    | .cons k v .nil => match e with
      | .Dict [some x] [y] _ => mQ k M x && mQ v M y
      | _ => false
    | _ => false
  | .of a, M, e => match e with
    | .Call (.Name x _) [y] [] _ => decide (x = "dict") && glB M x && notStar y && mE W a M y
    | _ => false
  | .call f es, M, e => match e with
    | .Call (.Name x _) args kws _ => decide (x = (W.fat f).1) && (W.fat f).2.isNone && glB M x && fnK W f && kwB (W.kw f) args.length kws && mEs W es M args kws
    | _ => false
  | .meth a m es, M, e => match e with
    | .Call (.Attribute o n ap) args kws pos => decide (n = W.mn m) && notCall0 o && sameLine ap pos && decide (args.length + kws.length < 29) && kwB (W.kwm m) args.length kws && mE W a M o && mEs W es M args kws
    | _ => false
def mT (W : Wd) : T → Mt → Expr → Bool
  | .v a, M, e => match e with
    | .Compare x ops ys p => (match a with
      | .isn _ _ => true
      | _ => false) && mE W a M (.Compare x ops ys p)
    | e => plainT e && mE W a M e
  | .cmp o a b, M, e => match e with
    | .Compare x [op] [y] _ => opCis o op && !behindInMarks op y && mE W a M x && mE W b M y
    | _ => false
  | .chn o o' a b c, M, e => match e with
    | .Compare x [op, op'] [y, z] _ => opCis o op && opCis o' op' && !lastMarks [op, op'] [y, z] && mE W a M x && mE W b M y && mE W c M z
    | _ => false
  | .and_ a b, M, e => match e with
    | .BoolOp .And (x :: y :: rest) p => mT W a M x && (match rest with
      | [] => mT W b M y
      | _ => mT W b M (.BoolOp .And (y :: rest) p))
    | _ => false
  | .or_ a b, M, e => match e with
    | .BoolOp .Or (x :: y :: rest) p => mT W a M x && (match rest with
      | [] => mT W b M y
      | _ => mT W b M (.BoolOp .Or (y :: rest) p))
    | _ => false
  | .not_ a, M, e => match e with
    | .UnaryOp .Not x _ => mT W a M x
    | _ => false
def mTs (W : Wd) : Ts → Mt → List Expr → Bool
  | .nil, _, l => match l with
    | [] => true
    | _ => false
  | .cons t ts, M, l => match l with
    | [x] => mT W t M x && (match ts with
      | .nil => true
      | _ => false)
    | _ => false
def mI (W : Wd) : IE → Mt → Expr → Bool
  | .v a, M, e => mE W a M e
  | .rng1 a, M, e => match e with
    | .Call (.Name x _) [y] [] _ => decide (x = "range") && glB M x && notStar y && mE W a M y
    | _ => false
  | .rng2 a b, M, e => match e with
    | .Call (.Name x _) [y, z] [] _ => decide (x = "range") && glB M x && notStar y && mE W a M y && notStar z && mE W b M z
    | _ => false
  | .rev a, M, e => match e with
    | .Call (.Name x _) [y] [] _ => decide (x = "reversed") && glB M x && notStar y && mE W a M y
    | _ => false
end
end U
namespace U
open PySem PySem.Spec L2 PyProof.Rows
structure Mx (M : Mt) (X : Cx) : Prop where
  N : X.N = M.N
  sc : X.env.scope = M.sc
  fx : M.fn = true → ∀ x, X.fn x = true
/-- the rules that come later -/
structure Late (W : Wd) (ev : Ev) : Prop where
  srts : ∀ {X : Cx} {wx : WX} {k : Nat} {a : E} {ea : Expr} {p p2 q pos : Pos}, Ct W X ev k wx → Gl X "sorted" → Gl X "set" → notStar ea = true → PE X ea (rd W X wx (rV W X) (evE ev a)) →
    PE X (.Call (.Name "sorted" p) [.Call (.Name "set" p2) [ea] [] q] [] pos) (rd W X wx (rL W X) (evL ev (.srts a)))
  vals : ∀ {X : Cx} {wx : WX} {k : Nat} {a : E} {o : Expr} {p apos q pos : Pos}, Ct W X ev k wx → Gl X "list" → notCall0 o = true → (apos.endLine == q.line) = true → PE X o (rd W X wx (rV W X) (evE ev a)) →
    PE X (.Call (.Name "list" p) [.Call (.Attribute o "values" apos) [] [] q] [] pos) (rd W X wx (rL W X) (evL ev (.vals a)))
section
variable {W : Wd} {M : Mt} {X : Cx} {x : Str} {i : Nat}
theorem notDbg_ok (h : notDbg x = true) : (x == ("__debug__" : Str)) = false ∧ (x == ("__classdict__" : Str)) = false := by
  unfold notDbg at h
  simp only [Bool.and_eq_true, Bool.not_eq_true'] at h
  exact h
theorem vis_ok (m : Mx M X) (h : visB M x i = true) : X.N[i]? = some x ∧ Vis X.env.scope x ∧ (x == ("__debug__" : Str)) = false ∧ (x == ("__classdict__" : Str)) = false := by
  unfold visB at h
  simp only [Bool.and_eq_true, decide_eq_true_eq] at h
  obtain ⟨⟨h1, h2⟩, h3⟩ := h
  obtain ⟨d1, d2⟩ := notDbg_ok h3
  refine ⟨by rw [m.N]; exact h1, ?_, d1, d2⟩
  unfold Vis
  rw [m.sc]
  cases q : M.sc.names.lookup x with
  | none => rw [q] at h2; cases h2
  | some kd =>
    rw [q] at h2
    cases kd with
    | «local» => exact .inl rfl
    | cell => exact .inr (.inl rfl)
    | free => exact .inr (.inr rfl)
    | _ => cases h2
theorem still_mQ {M : Mt} : ∀ {e : Expr} (c : E), mQ c M e = true → still c = true
  | _, .var _, _ => rfl
  | _, .int _, _ => rfl
  | _, .str _, _ => rfl
  | _, .ix a b, h => by
    unfold mQ at h
    split at h
    · simp only [Bool.and_eq_true] at h
      obtain ⟨⟨_, h2⟩, h3⟩ := h
      show (still a && still b) = true
      rw [still_mQ a h2, still_mQ b h3]
      rfl
    · cases h
theorem okQ {W : Wd} {ev : Ev} {M : Mt} {X : Cx} {wx : WX} {k : Nat} (ct : Ct W X ev k wx) (m : Mx M X) : ∀ (c : E) (e : Expr), mQ c M e = true → PE X e (rdQ W X c)
  | .var i, e, h => by
    unfold mQ at h
    split at h
    · obtain ⟨a, b, c, d⟩ := vis_ok m h
      exact q_var a b c d
    · cases h
  | .int i, e, h => by
    unfold mQ at h
    split at h
    · cases of_decide_eq_true h
      exact q_int
    · cases h
  | .str i, e, h => by
    unfold mQ at h
    split at h
    · cases of_decide_eq_true h
      exact q_str
    · cases h
  | .ix a b, e, h => by
    unfold mQ at h
    split at h
    · simp only [Bool.and_eq_true] at h
      obtain ⟨⟨h1, h2⟩, h3⟩ := h
      exact q_ix ct h1 (okQ ct m a _ h2) (okQ ct m b _ h3)
    · cases h
theorem loc_ok (m : Mx M X) (h : locB M x i = true) : X.N[i]? = some x ∧ Loc X.env.scope x ∧ (X.fn x = true ∨ X.env.scope.names.lookup x = some .local) := by
  unfold locB at h
  simp only [Bool.and_eq_true, decide_eq_true_eq, Bool.or_eq_true] at h
  obtain ⟨⟨h1, h2⟩, h3⟩ := h
  refine ⟨by rw [m.N]; exact h1, ?_, ?_⟩
  · unfold L2.Loc
    rw [m.sc]
    cases q : M.sc.names.lookup x with
    | none => rw [q] at h2; cases h2
    | some kd =>
      rw [q] at h2
      cases kd with
      | «local» => exact .inl rfl
      | cell => exact .inr rfl
      | _ => cases h2
  · rcases h3 with h3 | h3
    · exact .inl (m.fx h3 x)
    · right
      rw [m.sc]
      cases q : M.sc.names.lookup x with
      | none => rw [q] at h3; cases h3
      | some kd =>
        rw [q] at h3
        cases kd with
        | «local» => rfl
        | _ => cases h3
theorem gl_ok (m : Mx M X) (h : glB M x = true) : Gl X x ∧ (x == ("__debug__" : Str)) = false := by
  unfold glB at h
  simp only [Bool.and_eq_true] at h
  refine ⟨?_, (notDbg_ok h.2).1⟩
  show X.env.scope.names.lookup x = _
  rw [m.sc]
  have h1 := h.1
  cases q : M.sc.names.lookup x with
  | none => rw [q] at h1; cases h1
  | some kd =>
    rw [q] at h1
    cases kd with
    | globalImplicit => rfl
    | _ => cases h1
theorem nm_ok (m : Mx M X) : ∀ {es : List Expr} {is : List Nat}, nmB M es is = true → nmOk X es is := by
  intro es
  induction es with
  | nil =>
    intro is h
    cases is with
    | nil => exact trivial
    | cons _ _ => cases h
  | cons e es ih =>
    intro is h
    cases is with
    | nil => cases e <;> cases h
    | cons i is =>
      cases e <;> first
        | (cases h; done)
        | skip
      rename_i x p
      have h2 := Bool.and_eq_true_iff.mp (show (locB M x i && nmB M es is) = true from h)
      obtain ⟨a, b, c⟩ := loc_ok m h2.1
      exact ⟨a, b, c, ih h2.2⟩
theorem g_ok {tg : Tg} {e : Expr} (m : Mx M X) (hc : X.calm = true) (hN : X.N.Nodup) (h : mG M tg e = true) : PG X e (rG W X tg) := by
  cases tg with
  | n i =>
    cases e <;> first
      | (cases h; done)
      | skip
    obtain ⟨a, b, c⟩ := loc_ok m (show locB M _ i = true from h)
    exact g_n hN a b c
  | t is =>
    cases e <;> first
      | (cases h; done)
      | skip
    exact g_t hc hN (nm_ok m (show nmB M _ is = true from h))
theorem kw_ok {l : List (Nat × List Str)} {n : Nat} {kws : List Keyword} (h : kwB l n kws = true) : kws = [] ∨ (n, kwNames kws) ∈ l := by
  cases kws with
  | nil => exact .inl rfl
  | cons a r =>
    right
    obtain ⟨p, hp, e⟩ := List.any_eq_true.mp (show (l.any fun p => decide (p = (n, kwNames (a :: r)))) = true from h)
    rw [← of_decide_eq_true e]
    exact hp
theorem tys_ok (m : Mx M X) : ∀ {rs : List TyR} {ns : List Expr}, tysB W M rs ns = true → ns.length = rs.length ∧ ∀ (i : Nat) (r : TyR), rs[i]? = some r → ∃ q, ns[i]? = some (Expr.Name (clsName W r) q) ∧ tyGood W r = true ∧ Gl X (clsName W r) ∧ (clsName W r == ("__debug__" : Str)) = false
  | [], [], _ => ⟨rfl, fun i r e => by cases e⟩
  | [], _ :: _, h => by cases h
  | _ :: _, [], h => by cases h
  | r :: rs, e :: ns, h => by
    cases e <;> first
      | (cases h; done)
      | skip
    rename_i y q
    have h : (decide (y = clsName W r) && tyGood W r && glB M y && tysB W M rs ns) = true := h
    simp only [Bool.and_eq_true, decide_eq_true_eq] at h
    obtain ⟨⟨⟨h1, h2⟩, h3⟩, h4⟩ := h
    obtain ⟨l, ih⟩ := tys_ok m h4
    subst h1
    obtain ⟨g1, g2⟩ := gl_ok m h3
    refine ⟨congrArg Nat.succ l, fun i r' e => ?_⟩
    cases i with
    | zero => cases e; exact ⟨q, rfl, h2, g1, g2⟩
    | succ i => exact ih i r' e
theorem mx_blk {s : Shared} {H : Hp} {scope : Scope} {cl : List (Str × Addr)} {C : Addr} {fp : List Addr} (m : Mx M X) : Mx (M.blk scope) (X.blk s H scope (compEnvC scope cl C X.env) fp) :=
  ⟨m.N, by show relS scope X.env.scope = relS scope M.sc; rw [m.sc], fun z => by cases z⟩
theorem own_ix {N : List Str} {w : List Nat} : (ownOf N w).map (·.2) = w := by
  unfold ownOf
  rw [List.map_map]
  show w.map (fun i => i) = w
  rw [List.map_id']
end
section
variable {W : Wd} {ev : Ev}
theorem fn_some {f : Nat} (h : fnK W f = true) : ∃ fd, W.G.fns f = some fd := Option.isSome_iff_exists.mp h
theorem init_ok {c : Nat} {r : Option Nat} (h : initOf W c = some r) : ∃ cl, W.G.cls c = some cl ∧ cl.exc = false ∧ cl.froz = true ∧ cl.init = r := by
  unfold initOf at h
  split at h
  · rename_i cl e
    split at h
    · cases h
      exact ⟨cl, e, by assumption, by assumption, rfl⟩
    · cases h
  · cases h
theorem initH_ok {c f : Nat} (h : initH W c = some f) : ∃ cl, W.G.cls c = some cl ∧ cl.exc = false ∧ cl.init = some f := by
  unfold initH at h
  split at h
  · rename_i cl e
    split at h
    · exact ⟨cl, e, by assumption, h⟩
    · cases h
  · cases h
mutual
theorem okE (L : Late W ev) (hx : ∀ cc cl, W.G.cls cc = some cl → cl.exc = true → cl.flds = []) : ∀ (c : E) (M : Mt) (X : Cx) (wx : WX) (k : Nat) (e : Expr), Mx M X → Ct W X ev k wx → mE W c M e = true → PE X e (rd W X wx (rV W X) (evE ev c))
  | .var i, M, X, wx, k, e, m, ct, h => by
    unfold mE at h
    split at h
    · obtain ⟨a, b, c, d⟩ := vis_ok m h
      exact x_var a b c d
    · cases h
  | .frz i, M, X, wx, k, e, m, ct, h => by
    unfold mE at h
    split at h
    · obtain ⟨a, b, c, d⟩ := vis_ok m h
      exact x_frz a b c d
    · cases h
  | .int i, M, X, wx, k, e, m, ct, h => by
    unfold mE at h
    split at h
    · cases of_decide_eq_true h
      exact x_int
    · cases h
  | .str i, M, X, wx, k, e, m, ct, h => by
    unfold mE at h
    split at h
    · cases of_decide_eq_true h
      exact x_str
    · cases h
  | .bl i, M, X, wx, k, e, m, ct, h => by
    unfold mE at h
    split at h
    · cases (beq_iff_eq.mp h)
      exact x_bl
    · cases h
  | .non, M, X, wx, k, e, m, ct, h => by
    unfold mE at h
    split at h
    · exact x_non
    · cases h
  | .gcls c, M, X, wx, k, e, m, ct, h => by
    unfold mE at h
    split at h
    · simp only [Bool.and_eq_true, decide_eq_true_eq] at h
      obtain ⟨⟨h1, h2⟩, h3⟩ := h
      subst h1
      obtain ⟨cl, g⟩ := Option.isSome_iff_exists.mp (show (W.G.cls c).isSome = true from h3)
      obtain ⟨g1, g2⟩ := gl_ok m h2
      exact x_gcls ct g g1 g2
    · cases h
  | .gfn f, M, X, wx, k, e, m, ct, h => by
    unfold mE at h
    split at h
    · simp only [Bool.and_eq_true, decide_eq_true_eq, Option.isNone_iff_eq_none] at h
      obtain ⟨⟨⟨h1, h2⟩, h3⟩, h4⟩ := h
      subst h1
      obtain ⟨fd, g⟩ := fn_some h4
      obtain ⟨g1, g2⟩ := gl_ok m h3
      exact x_gfn ct g h2 g1 g2
    · cases h
  | .gc g, M, X, wx, k, e, m, ct, h => by
    unfold mE at h
    split at h
    · simp only [Bool.and_eq_true, decide_eq_true_eq] at h
      obtain ⟨⟨h1, h2⟩, h3⟩ := h
      subst h1
      obtain ⟨g1, g2⟩ := gl_ok m h2
      exact x_gc ct h3 g1 g2
    · cases h
  | .tup es, M, X, wx, k, e, m, ct, h => by
    unfold mE at h
    split at h
    · exact x_tup (okEs L hx es M X wx k _ _ m ct h)
    · cases h
  | .lst l, M, X, wx, k, e, m, ct, h => x_lst (okL L hx l M X wx k e m ct (by unfold mE at h; exact h))
  | .hlst l, M, X, wx, k, e, m, ct, h => x_hlst (okL L hx l M X wx k e m ct (by unfold mE at h; exact h))
  | .dic d, M, X, wx, k, e, m, ct, h => x_dic (okD L hx d M X wx k e m ct (by unfold mE at h; exact h))
  | .hdic d, M, X, wx, k, e, m, ct, h => x_hdic (okD L hx d M X wx k e m ct (by unfold mE at h; exact h))
  | .bin o a b, M, X, wx, k, e, m, ct, h => by
    unfold mE at h
    split at h
    · simp only [Bool.and_eq_true] at h
      obtain ⟨⟨h1, h2⟩, h3⟩ := h
      rw [opIs_ok h1]
      exact x_bin (okE L hx a M X wx k _ m ct h2) (okE L hx b M X wx k _ m ct h3)
    · cases h
  | .neg a, M, X, wx, k, e, m, ct, h => by
    unfold mE at h
    split at h
    · exact x_neg (okE L hx a M X wx k _ m ct h)
    · cases h
  | .cmp o a b, M, X, wx, k, e, m, ct, h => by
    unfold mE at h
    split at h
    · simp only [Bool.and_eq_true, Bool.not_eq_true'] at h
      obtain ⟨⟨⟨h1, h0⟩, h2⟩, h3⟩ := h
      have e1 := opCis_ok h1
      subst e1
      exact x_cmp ct h0 (okE L hx a M X wx k _ m ct h2) (okE L hx b M X wx k _ m ct h3)
    · cases h
  | .chn o o' a b c, M, X, wx, k, e, m, ct, h => by
    unfold mE at h
    split at h
    · simp only [Bool.and_eq_true, Bool.not_eq_true'] at h
      obtain ⟨⟨⟨⟨⟨h1, h1'⟩, h0⟩, h2⟩, h3⟩, h4⟩ := h
      have e1 := opCis_ok h1
      subst e1
      have e1 := opCis_ok h1'
      subst e1
      exact x_chn ct h0 (okE L hx a M X wx k _ m ct h2) (okE L hx b M X wx k _ m ct h3) (okE L hx c M X wx k _ m ct h4)
    · cases h
  | .andv a b, M, X, wx, k, e, m, ct, h => by
    unfold mE at h
    split at h
    · rename_i x y rest p
      simp only [Bool.and_eq_true] at h
      obtain ⟨h1, h2⟩ := h
      have pa := okE L hx a M X wx k _ m ct h1
      have pb : PE X (.BoolOp .And (y :: rest) p) (rd W X wx (rV W X) (evE ev b)) := by
        cases rest with
        | nil => exact pe_one (okE L hx b M X wx k _ m ct h2)
        | cons z r => exact okE L hx b M X wx k _ m ct h2
      exact PE.mono (pe_and pa pb) fun σ H Q h => rd_andv h
    · cases h
  | .orv a b, M, X, wx, k, e, m, ct, h => by
    unfold mE at h
    split at h
    · rename_i x y rest p
      simp only [Bool.and_eq_true] at h
      obtain ⟨h1, h2⟩ := h
      have pa := okE L hx a M X wx k _ m ct h1
      have pb : PE X (.BoolOp .Or (y :: rest) p) (rd W X wx (rV W X) (evE ev b)) := by
        cases rest with
        | nil => exact pe_one (okE L hx b M X wx k _ m ct h2)
        | cons z r => exact okE L hx b M X wx k _ m ct h2
      exact PE.mono (pe_or pa pb) fun σ H Q h => rd_orv h
    · cases h
  | .notv a, M, X, wx, k, e, m, ct, h => by
    unfold mE at h
    split at h
    · exact x_notv (okE L hx a M X wx k _ m ct h)
    · cases h
  | .isn a neg, M, X, wx, k, e, m, ct, h => by
    unfold mE at h
    split at h
    · simp only [Bool.and_eq_true] at h
      obtain ⟨h1, h2⟩ := h
      split at h1
      · exact x_isn (okE L hx a M X wx k _ m ct h2)
      · exact x_notn (okE L hx a M X wx k _ m ct h2)
      · cases h1
    · cases h
  | .ifx t a b, M, X, wx, k, e, m, ct, h => by
    unfold mE at h
    split at h
    · simp only [Bool.and_eq_true] at h
      obtain ⟨⟨h1, h2⟩, h3⟩ := h
      exact x_ifx (okT L hx t M X wx k _ m ct h1).1 (okE L hx a M X wx k _ m ct h2) (okE L hx b M X wx k _ m ct h3)
    · cases h
  | .fld a f, M, X, wx, k, e, m, ct, h => by
    unfold mE at h
    split at h
    · simp only [Bool.and_eq_true, decide_eq_true_eq] at h
      obtain ⟨⟨h1, h2⟩, h3⟩ := h
      subst h1
      exact x_fld ct h2 hx (okE L hx a M X wx k _ m ct h3)
    · cases h
  | .ix a b, M, X, wx, k, e, m, ct, h => by
    unfold mE at h
    split at h
    · simp only [Bool.and_eq_true] at h
      obtain ⟨⟨h1, h2⟩, h3⟩ := h
      exact x_ix ct h1 (okE L hx a M X wx k _ m ct h2) (okE L hx b M X wx k _ m ct h3)
    · cases h
  | .sl a lo hi, M, X, wx, k, e, m, ct, h => by
    unfold mE at h
    split at h
    · simp only [Bool.and_eq_true] at h
      obtain ⟨⟨h1, h2⟩, h3⟩ := h
      exact x_sl (okE L hx a M X wx k _ m ct h1) (okO L hx lo M X wx k _ m ct h2) (okO L hx hi M X wx k _ m ct h3)
    · cases h
  | .call f es, M, X, wx, k, e, m, ct, h => by
    unfold mE at h
    split at h
    · simp only [Bool.and_eq_true, decide_eq_true_eq, Option.isNone_iff_eq_none] at h
      obtain ⟨⟨⟨⟨⟨h1, h2⟩, h3⟩, h4⟩, h5⟩, h6⟩ := h
      subst h1
      obtain ⟨g1, g2⟩ := gl_ok m h3
      exact x_call ct g1 h2 g2 (okEs L hx es M X wx k _ _ m ct h6) (kw_ok h5) (fn_some h4)
    · cases h
  | .callv a es, M, X, wx, k, e, m, ct, h => by
    unfold mE at h
    split at h
    · simp only [Bool.and_eq_true] at h
      obtain ⟨⟨h1, h2⟩, h3⟩ := h
      split at h1
      · obtain ⟨q1, q2, q3, q4⟩ := vis_ok m h1
        exact x_callv ct q1 q2 q3 q4 (okE L hx _ M X wx k _ m ct h2) (okEs L hx es M X wx k _ _ m ct h3)
      · cases h1
    · cases h
  | .mk c es, M, X, wx, k, e, m, ct, h => by
    unfold mE at h
    split at h
    · simp only [Bool.and_eq_true, decide_eq_true_eq] at h
      obtain ⟨⟨h1, h2⟩, h3⟩ := h
      subst h1
      obtain ⟨g1, g2⟩ := gl_ok m h2
      split at h3
      · rename_i f ei
        obtain ⟨cl, q1, q2, q3, q4⟩ := init_ok ei
        simp only [Bool.and_eq_true] at h3
        exact x_mk ct q1 q2 q3 q4 g1 g2 (okEs L hx es M X wx k _ _ m ct h3.2) (kw_ok h3.1)
      · rename_i ei
        obtain ⟨cl, q1, q2, q3, q4⟩ := init_ok ei
        split at h3
        · exact x_mk0 ct q1 q2 q3 q4 g1 g2
        · cases h3
      · cases h3
    · cases h
  | .mkh c es, M, X, wx, k, e, m, ct, h => by
    unfold mE at h
    split at h
    · simp only [Bool.and_eq_true, decide_eq_true_eq] at h
      obtain ⟨⟨h1, h2⟩, h3⟩ := h
      subst h1
      obtain ⟨g1, g2⟩ := gl_ok m h2
      split at h3
      · rename_i f ei
        obtain ⟨cl, q1, q2, q4⟩ := initH_ok ei
        simp only [Bool.and_eq_true] at h3
        exact x_mkh ct q1 q2 q4 g1 g2 (okEs L hx es M X wx k _ _ m ct h3.2) (kw_ok h3.1)
      · cases h3
    · cases h
  | .meth a mm es, M, X, wx, k, e, m, ct, h => by
    unfold mE at h
    split at h
    · simp only [Bool.and_eq_true, decide_eq_true_eq] at h
      obtain ⟨⟨⟨⟨⟨⟨h1, h2⟩, h3⟩, h4⟩, h5⟩, h6⟩, h7⟩ := h
      subst h1
      exact x_meth ct (okE L hx a M X wx k _ m ct h6) h2 h3 h4 (okEs L hx es M X wx k _ _ m ct h7) (kw_ok h5)
    · cases h
  | .bf b es, M, X, wx, k, e, m, ct, h => by
    unfold mE at h
    split at h
    · simp only [Bool.and_eq_true, decide_eq_true_eq] at h
      obtain ⟨⟨h1, h2⟩, h3⟩ := h
      subst h1
      exact x_bf ct (gl_ok m h2).1 (okEs L hx es M X wx k _ _ m ct h3)
    · cases h
  | .get2 a b d, M, X, wx, k, e, m, ct, h => by
    unfold mE at h
    split at h
    · simp only [Bool.and_eq_true, decide_eq_true_eq] at h
      obtain ⟨⟨⟨⟨⟨⟨h1, h2⟩, h3⟩, h4⟩, h5⟩, h6⟩, h7⟩ := h
      subst h1
      exact x_get2 ct (okE L hx a M X wx k _ m ct h5) (okE L hx b M X wx k _ m ct h6) (okE L hx d M X wx k _ m ct h7) h2 h3 h4
    · cases h
  | .bm mm a es, M, X, wx, k, e, m, ct, h => by
    unfold mE at h
    split at h
    · simp only [Bool.and_eq_true] at h
      obtain ⟨⟨⟨⟨h1, h2⟩, h3⟩, h4⟩, h5⟩ := h
      split at h1
      · cases of_decide_eq_true h1
        exact x_count (okE L hx a M X wx k _ m ct h4) h2 h3 (okEs L hx es M X wx k _ _ m ct h5)
      · cases of_decide_eq_true h1
        exact x_join (okE L hx a M X wx k _ m ct h4) h2 h3 (okEs L hx es M X wx k _ _ m ct h5)
      · cases h1
    · cases h
  | .mm mm a es, M, X, wx, k, e, m, ct, h => by
    unfold mE at h
    split at h
    · simp only [Bool.and_eq_true] at h
      obtain ⟨⟨⟨h2, h3⟩, h4⟩, h5⟩ := h
      split at h5
      · simp only [Bool.and_eq_true, decide_eq_true_eq] at h5
        obtain ⟨⟨k1, k2⟩, k3⟩ := h5
        subst k1
        exact x_mm1 (mm := .append) (.inl rfl) (okE L hx a M X wx k _ m ct h4) h2 h3 k2 (okEs L hx es M X wx k _ _ m ct k3)
      · simp only [Bool.and_eq_true, decide_eq_true_eq] at h5
        obtain ⟨⟨k1, k2⟩, k3⟩ := h5
        subst k1
        exact x_mm1 (mm := .extend) (.inr rfl) (okE L hx a M X wx k _ m ct h4) h2 h3 k2 (okEs L hx es M X wx k _ _ m ct k3)
      · cases of_decide_eq_true h5
        exact x_pop (okE L hx a M X wx k _ m ct h4) h2 h3
      · cases h5
    · cases h
  | .mo mm i es, M, X, wx, k, e, m, ct, h => by
    unfold mE at h
    split at h
    · simp only [Bool.and_eq_true, decide_eq_true_eq] at h
      obtain ⟨⟨⟨⟨h1, h2⟩, h3⟩, h4⟩, h5⟩ := h
      obtain ⟨q1, q2, q3, q4⟩ := vis_ok m h1
      split at h3
      · cases of_decide_eq_true h3
        exact x_mo1 (mm := .append) (.inl rfl) q1 q2 q3 q4 h2 h4 (okEs L hx es M X wx k _ _ m ct h5)
      · cases of_decide_eq_true h3
        exact x_mo1 (mm := .extend) (.inr rfl) q1 q2 q3 q4 h2 h4 (okEs L hx es M X wx k _ _ m ct h5)
      · cases h3
    · cases h
  | .isi a cs, M, X, wx, k, e, m, ct, h => by
    unfold mE at h
    split at h
    · simp only [Bool.and_eq_true, decide_eq_true_eq] at h
      obtain ⟨⟨⟨⟨h1, h2⟩, h3⟩, h4⟩, h5⟩ := h
      subst h1
      have g0 := (gl_ok m h2).1
      split at h5
      · simp only [Bool.and_eq_true, decide_eq_true_eq] at h5
        obtain ⟨⟨k1, k2⟩, k3⟩ := h5
        subst k1
        obtain ⟨g1, g2⟩ := gl_ok m k3
        exact x_isi1 ct k2 g0 g1 g2 (okE L hx a M X wx k _ m ct h4) h3
      · simp only [Bool.and_eq_true, decide_eq_true_eq] at h5
        obtain ⟨k1, k2⟩ := h5
        obtain ⟨l, hh⟩ := tys_ok m k2
        exact x_isiT ct (by intro z; cases z) (by rw [List.length_cons]; omega) g0 hh l (okE L hx a M X wx k _ m ct h4) h3
      · cases h5
    · cases h
theorem okO (L : Late W ev) (hx : ∀ cc cl, W.G.cls cc = some cl → cl.exc = true → cl.flds = []) : ∀ (c : O) (M : Mt) (X : Cx) (wx : WX) (k : Nat) (e : Option Expr), Mx M X → Ct W X ev k wx → mO W c M e = true → PO X e (rd W X wx rOI (evO ev c))
  | .n, M, X, wx, k, e, m, ct, h => by
    unfold mO at h
    cases e with
    | none => exact z_n
    | some _ => cases h
  | .e a, M, X, wx, k, e, m, ct, h => by
    unfold mO at h
    cases e with
    | none => cases h
    | some x => exact z_e (okE L hx a M X wx k _ m ct h)
theorem okEs (L : Late W ev) (hx : ∀ cc cl, W.G.cls cc = some cl → cl.exc = true → cl.flds = []) : ∀ (c : Es) (M : Mt) (X : Cx) (wx : WX) (k : Nat) (args : List Expr) (kws : List Keyword), Mx M X → Ct W X ev k wx → mEs W c M args kws = true → PAK X args kws (rd W X wx (rVs W X) (evEs ev c))
  | .nil, M, X, wx, k, args, kws, m, ct, h => by
    unfold mEs at h
    split at h
    · exact x_nil
    · cases h
  | .cons a es, M, X, wx, k, args, kws, m, ct, h => by
    unfold mEs at h
    split at h
    · simp only [Bool.and_eq_true] at h
      obtain ⟨⟨h1, h2⟩, h3⟩ := h
      exact x_cons (okE L hx a M X wx k _ m ct h2) h1 (okEs L hx es M X wx k _ _ m ct h3)
    · split at h
      · simp only [Bool.and_eq_true] at h
        exact x_ofkw (x_kwcons (okE L hx a M X wx k _ m ct h.1) (okKw L hx es M X wx k _ m ct h.2)) (by intro z; cases z)
      · cases h
theorem okKw (L : Late W ev) (hx : ∀ cc cl, W.G.cls cc = some cl → cl.exc = true → cl.flds = []) : ∀ (c : Es) (M : Mt) (X : Cx) (wx : WX) (k : Nat) (kws : List Keyword), Mx M X → Ct W X ev k wx → mEs W c M [] kws = true → PKW X kws (rd W X wx (rVs W X) (evEs ev c))
  | .nil, M, X, wx, k, kws, m, ct, h => by
    unfold mEs at h
    cases kws with
    | nil => exact x_kwnil
    | cons _ _ => cases h
  | .cons a es, M, X, wx, k, kws, m, ct, h => by
    unfold mEs at h
    cases kws with
    | nil => cases h
    | cons q r =>
      obtain ⟨nm, v, kp⟩ := q
      cases nm with
      | none => cases h
      | some n =>
        have h : (mE W a M v && mEs W es M [] r) = true := h
        simp only [Bool.and_eq_true] at h
        exact x_kwcons (okE L hx a M X wx k _ m ct h.1) (okKw L hx es M X wx k _ m ct h.2)
theorem okL (L : Late W ev) (hx : ∀ cc cl, W.G.cls cc = some cl → cl.exc = true → cl.flds = []) : ∀ (c : LE) (M : Mt) (X : Cx) (wx : WX) (k : Nat) (e : Expr), Mx M X → Ct W X ev k wx → mL W c M e = true → PE X e (rd W X wx (rL W X) (evL ev c))
  | .disp es, M, X, wx, k, e, m, ct, h => by
    unfold mL at h
    split at h
    · exact x_disp (okEs L hx es M X wx k _ _ m ct h)
    · cases h
  | .comp a tg it w ts, M, X, wx, k, e, m, ct, h => by
    unfold mL at h
    split at h
    · simp only [Bool.and_eq_true, decide_eq_true_eq] at h
      obtain ⟨⟨⟨⟨⟨⟨⟨h0, h1⟩, h2⟩, h3⟩, h4⟩, h5⟩, h6⟩, h7⟩ := h
      subst h0
      refine xl_comp ct (own := ownOf M.N w) (by rw [m.N, m.sc]; exact blkOk_by h1) own_ix (fun i hi => by simpa using List.all_eq_true.mp h2 i hi) h3 (okI L hx it M X wx k _ _ m ct h4) (fun s H C cl fp => g_ok (mx_blk m) ct.calm ct.nd h5)
        (fun s H C cl fp => okTs L hx ts _ _ wxF k _ (mx_blk m) ct.blk h6) (fun s H C cl fp => okE L hx a _ _ wxF k _ (mx_blk m) ct.blk h7)
    · cases h
  | .of a, M, X, wx, k, e, m, ct, h => by
    unfold mL at h
    split at h
    · simp only [Bool.and_eq_true, decide_eq_true_eq] at h
      obtain ⟨⟨⟨h1, h2⟩, h3⟩, h4⟩ := h
      subst h1
      exact xl_of ct (gl_ok m h2).1 (okE L hx a M X wx k _ m ct h4) h3
    · cases h
  | .sl a lo hi, M, X, wx, k, e, m, ct, h => by
    unfold mL at h
    split at h
    · simp only [Bool.and_eq_true] at h
      obtain ⟨⟨h1, h2⟩, h3⟩ := h
      exact xl_sl (okE L hx a M X wx k _ m ct h1) (okO L hx lo M X wx k _ m ct h2) (okO L hx hi M X wx k _ m ct h3)
    · cases h
  | .cat a b, M, X, wx, k, e, m, ct, h => by
    unfold mL at h
    split at h
    · simp only [Bool.and_eq_true] at h
      obtain ⟨⟨h1, h2⟩, h3⟩ := h
      rw [opIs_ok h1]
      exact xl_cat (okE L hx a M X wx k _ m ct h2) (okE L hx b M X wx k _ m ct h3)
    · cases h
  | .rep a b, M, X, wx, k, e, m, ct, h => by
    unfold mL at h
    split at h
    · simp only [Bool.and_eq_true] at h
      obtain ⟨⟨h1, h2⟩, h3⟩ := h
      rw [opIs_ok h1]
      exact xl_rep (okE L hx a M X wx k _ m ct h2) (okE L hx b M X wx k _ m ct h3)
    · cases h
  | .call f es, M, X, wx, k, e, m, ct, h => by
    unfold mL at h
    split at h
    · simp only [Bool.and_eq_true, decide_eq_true_eq, Option.isNone_iff_eq_none] at h
      obtain ⟨⟨⟨⟨⟨h1, h2⟩, h3⟩, h4⟩, h5⟩, h6⟩ := h
      subst h1
      obtain ⟨g1, g2⟩ := gl_ok m h3
      exact x_callL ct g1 h2 g2 (okEs L hx es M X wx k _ _ m ct h6) (kw_ok h5) (fn_some h4)
    · cases h
  | .meth a mm es, M, X, wx, k, e, m, ct, h => by
    unfold mL at h
    split at h
    · simp only [Bool.and_eq_true, decide_eq_true_eq] at h
      obtain ⟨⟨⟨⟨⟨⟨h1, h2⟩, h3⟩, h4⟩, h5⟩, h6⟩, h7⟩ := h
      subst h1
      exact x_methL ct (okE L hx a M X wx k _ m ct h6) h2 h3 h4 (okEs L hx es M X wx k _ _ m ct h7) (kw_ok h5)
    · cases h
  | .srtd a, M, X, wx, k, e, m, ct, h => by
    unfold mL at h
    split at h
    · simp only [Bool.and_eq_true, decide_eq_true_eq] at h
      obtain ⟨⟨⟨h1, h2⟩, h3⟩, h4⟩ := h
      subst h1
      exact xl_srtd ct (gl_ok m h2).1 (okE L hx a M X wx k _ m ct h4) h3
    · cases h
  | .rvs a, M, X, wx, k, e, m, ct, h => by
    unfold mL at h
    split at h
    · exact xl_rvs (okE L hx a M X wx k _ m ct h)
    · cases h
  | .srts a, M, X, wx, k, e, m, ct, h => by
    unfold mL at h
    split at h
    · simp only [Bool.and_eq_true, decide_eq_true_eq] at h
      obtain ⟨⟨⟨⟨⟨h1, h2⟩, h3⟩, h4⟩, h5⟩, h6⟩ := h
      subst h1
      subst h3
      exact L.srts ct (gl_ok m h2).1 (gl_ok m h4).1 h5 (okE L hx a M X wx k _ m ct h6)
    · cases h
  | .vals a, M, X, wx, k, e, m, ct, h => by
    unfold mL at h
    split at h
    · simp only [Bool.and_eq_true, decide_eq_true_eq] at h
      obtain ⟨⟨⟨⟨⟨h1, h2⟩, h3⟩, h4⟩, h5⟩, h6⟩ := h
      subst h1
      subst h3
      exact L.vals ct (gl_ok m h2).1 h4 h5 (okE L hx a M X wx k _ m ct h6)
    · cases h
theorem okD (L : Late W ev) (hx : ∀ cc cl, W.G.cls cc = some cl → cl.exc = true → cl.flds = []) : ∀ (c : DE) (M : Mt) (X : Cx) (wx : WX) (k : Nat) (e : Expr), Mx M X → Ct W X ev k wx → mD W c M e = true → PE X e (rd W X wx (rD W X) (evD ev c))
  | .emp, M, X, wx, k, e, m, ct, h => by
    unfold mD at h
    split at h
    · exact x_emp
    · cases h
  | .disp ds, M, X, wx, k, e, m, ct, h => by
    unfold mD at h
    split at h
    · split at h
      · obtain ⟨h1, h2⟩ := Bool.and_eq_true_iff.mp h
        exact x_disp1 (still_mQ _ h1) (still_mQ _ h2) (okQ ct m _ _ h1) (okQ ct m _ _ h2)
      · cases h
    · cases h
  | .of a, M, X, wx, k, e, m, ct, h => by
    unfold mD at h
    split at h
    · simp only [Bool.and_eq_true, decide_eq_true_eq] at h
      obtain ⟨⟨⟨h1, h2⟩, h3⟩, h4⟩ := h
      subst h1
      exact xd_of ct (gl_ok m h2).1 (okE L hx a M X wx k _ m ct h4) h3
    · cases h
  | .call f es, M, X, wx, k, e, m, ct, h => by
    unfold mD at h
    split at h
    · simp only [Bool.and_eq_true, decide_eq_true_eq, Option.isNone_iff_eq_none] at h
      obtain ⟨⟨⟨⟨⟨h1, h2⟩, h3⟩, h4⟩, h5⟩, h6⟩ := h
      subst h1
      obtain ⟨g1, g2⟩ := gl_ok m h3
      exact x_callD ct g1 h2 g2 (okEs L hx es M X wx k _ _ m ct h6) (kw_ok h5) (fn_some h4)
    · cases h
  | .meth a mm es, M, X, wx, k, e, m, ct, h => by
    unfold mD at h
    split at h
    · simp only [Bool.and_eq_true, decide_eq_true_eq] at h
      obtain ⟨⟨⟨⟨⟨⟨h1, h2⟩, h3⟩, h4⟩, h5⟩, h6⟩, h7⟩ := h
      subst h1
      exact x_methD ct (okE L hx a M X wx k _ m ct h6) h2 h3 h4 (okEs L hx es M X wx k _ _ m ct h7) (kw_ok h5)
    · cases h
theorem okT (L : Late W ev) (hx : ∀ cc cl, W.G.cls cc = some cl → cl.exc = true → cl.flds = []) : ∀ (c : T) (M : Mt) (X : Cx) (wx : WX) (k : Nat) (e : Expr), Mx M X → Ct W X ev k wx → mT W c M e = true → PT X e (rd W X wx rB1 (evT ev c)) ∧ ((∃ op l p, e = .BoolOp op l p) → PW X e (rd W X wx rB1 (evT ev c)))
  | .v a, M, X, wx, k, e, m, ct, h => by
    unfold mT at h
    split at h
    · simp only [Bool.and_eq_true] at h
      obtain ⟨h1, h2⟩ := h
      split at h1
      · rename_i b neg
        unfold mE at h2
        split at h2
        · rename_i x op q1 q2 p e'
          simp only [Bool.and_eq_true] at h2
          obtain ⟨h3, h4⟩ := h2
          refine ⟨?_, fun ⟨_, _, _, z⟩ => by cases z⟩
          split at h3
          · rw [e']; exact y_isn (okE L hx b M X wx k _ m ct h4)
          · rw [e']; exact y_notn (okE L hx b M X wx k _ m ct h4)
          · cases h3
        · cases h2
      · cases h1
    · simp only [Bool.and_eq_true] at h
      obtain ⟨h1, h2⟩ := h
      refine ⟨y_v (okE L hx a M X wx k _ m ct h2) h1, fun ⟨_, _, _, z⟩ => ?_⟩
      subst z
      cases h1
  | .cmp o a b, M, X, wx, k, e, m, ct, h => by
    unfold mT at h
    split at h
    · simp only [Bool.and_eq_true, Bool.not_eq_true'] at h
      obtain ⟨⟨⟨h1, h0⟩, h2⟩, h3⟩ := h
      have e1 := opCis_ok h1
      subst e1
      exact ⟨y_cmp ct h0 (okE L hx a M X wx k _ m ct h2) (okE L hx b M X wx k _ m ct h3), fun ⟨_, _, _, z⟩ => by cases z⟩
    · cases h
  | .chn o o' a b c, M, X, wx, k, e, m, ct, h => by
    unfold mT at h
    split at h
    · simp only [Bool.and_eq_true, Bool.not_eq_true'] at h
      obtain ⟨⟨⟨⟨⟨h1, h1'⟩, h0⟩, h2⟩, h3⟩, h4⟩ := h
      have e1 := opCis_ok h1
      subst e1
      have e1 := opCis_ok h1'
      subst e1
      exact ⟨y_chn ct h0 (okE L hx a M X wx k _ m ct h2) (okE L hx b M X wx k _ m ct h3) (okE L hx c M X wx k _ m ct h4), fun ⟨_, _, _, z⟩ => by cases z⟩
    · cases h
  | .and_ a b, M, X, wx, k, e, m, ct, h => by
    unfold mT at h
    split at h
    · rename_i x y rest p
      simp only [Bool.and_eq_true] at h
      obtain ⟨h1, h2⟩ := h
      have pa := (okT L hx a M X wx k _ m ct h1).1
      have pb : PW X (.BoolOp .And (y :: rest) p) (rd W X wx rB1 (evT ev b)) := by
        cases rest with
        | nil => exact pw_and1 (okT L hx b M X wx k _ m ct h2).1
        | cons z r => exact (okT L hx b M X wx k _ m ct h2).2 ⟨_, _, _, rfl⟩
      have := PW.mono (pw_and pa pb) fun σ H Q h => rd_and h
      exact ⟨this.pt, fun _ => this⟩
    · cases h
  | .or_ a b, M, X, wx, k, e, m, ct, h => by
    unfold mT at h
    split at h
    · rename_i x y rest p
      simp only [Bool.and_eq_true] at h
      obtain ⟨h1, h2⟩ := h
      have pa := (okT L hx a M X wx k _ m ct h1).1
      have pb : PW X (.BoolOp .Or (y :: rest) p) (rd W X wx rB1 (evT ev b)) := by
        cases rest with
        | nil => exact pw_or1 (okT L hx b M X wx k _ m ct h2).1
        | cons z r => exact (okT L hx b M X wx k _ m ct h2).2 ⟨_, _, _, rfl⟩
      have := PW.mono (pw_or pa pb) fun σ H Q h => rd_or h
      exact ⟨this.pt, fun _ => this⟩
    · cases h
  | .not_ a, M, X, wx, k, e, m, ct, h => by
    unfold mT at h
    split at h
    · exact ⟨y_not (okT L hx a M X wx k _ m ct h).1, fun ⟨_, _, _, z⟩ => by cases z⟩
    · cases h
theorem okTs (L : Late W ev) (hx : ∀ cc cl, W.G.cls cc = some cl → cl.exc = true → cl.flds = []) : ∀ (c : Ts) (M : Mt) (X : Cx) (wx : WX) (k : Nat) (l : List Expr), Mx M X → Ct W X ev k wx → mTs W c M l = true → PTs X l (rd W X wx rB1 (evTs ev c))
  | .nil, M, X, wx, k, l, m, ct, h => by
    unfold mTs at h
    split at h
    · exact q_nil
    · cases h
  | .cons t ts, M, X, wx, k, l, m, ct, h => by
    unfold mTs at h
    split at h
    · simp only [Bool.and_eq_true] at h
      obtain ⟨h1, h2⟩ := h
      split at h2
      · exact q_one (okT L hx t M X wx k _ m ct h1).1
      · cases h2
    · cases h
theorem okI (L : Late W ev) (hx : ∀ cc cl, W.G.cls cc = some cl → cl.exc = true → cl.flds = []) : ∀ (c : IE) (M : Mt) (X : Cx) (wx : WX) (k : Nat) (tg e : Expr), Mx M X → Ct W X ev k wx → mI W c M e = true → PI X tg e (rdI W X wx (evI ev c))
  | .v a, M, X, wx, k, tg, e, m, ct, h => i_v (okE L hx a M X wx k _ m ct (by unfold mI at h; exact h))
  | .rng1 a, M, X, wx, k, tg, e, m, ct, h => by
    unfold mI at h
    split at h
    · simp only [Bool.and_eq_true, decide_eq_true_eq] at h
      obtain ⟨⟨⟨h1, h2⟩, h3⟩, h4⟩ := h
      subst h1
      exact i_rng1 ct (gl_ok m h2).1 (okE L hx a M X wx k _ m ct h4) h3
    · cases h
  | .rng2 a b, M, X, wx, k, tg, e, m, ct, h => by
    unfold mI at h
    split at h
    · simp only [Bool.and_eq_true, decide_eq_true_eq] at h
      obtain ⟨⟨⟨⟨⟨h1, h2⟩, h3⟩, h4⟩, h5⟩, h6⟩ := h
      subst h1
      exact i_rng2 ct (gl_ok m h2).1 (okE L hx a M X wx k _ m ct h4) h3 (okE L hx b M X wx k _ m ct h6) h5
    · cases h
  | .rev a, M, X, wx, k, tg, e, m, ct, h => by
    unfold mI at h
    split at h
    · simp only [Bool.and_eq_true, decide_eq_true_eq] at h
      obtain ⟨⟨⟨h1, h2⟩, h3⟩, h4⟩ := h
      subst h1
      exact i_rev ct (gl_ok m h2).1 (okE L hx a M X wx k _ m ct h4) h3
    · cases h
end
end
end U
namespace U
open PySem PySem.Spec L2 PyProof.Rows
def fnKd : ScopeKind → Bool
  | .function => true
  | _ => false
def compB (M : Mt) (i : Nat) (y : Str) (py : Pos) : Expr → Bool
  | .ListComp _ _ scope p => decide (M.N[i]? = some y) && isLoc (M.sc.names.lookup y) && fnKd M.sc.kind && (py.line == p.line) && !(scope.names.any fun (n, k) => n == y && (k == .local || k == .cell))
  | _ => false
def excB (W : Wd) (c : Nat) : Bool := match W.G.cls c with
  | some cl => cl.exc && cl.flds.isEmpty
  | none => false
def excK (W : Wd) (c : Nat) : Bool := match W.G.cls c with
  | some cl => cl.exc
  | none => false
def cstB : PV → Expr → Bool
  | .non, .Constant .none _ _ => true
  | .bl b, .Constant (.bool c) _ _ => b == c
  | .int i, .Constant (.int j) _ _ => decide (i = j)
  | .str z, .Constant (.str y) _ _ => decide (z = y)
  | _, _ => false
def hxB (M : Mt) : Hx → Stmt → Bool
  | .ret y, .Return (some e) _ => cstB y e
  | .set i y, .Assign [.Name x _] e _ => locB M x i && cstB y e
  | _, _ => false
def hsB (W : Wd) (M : Mt) : List Hd → List ExceptHandler → Bool
  | [], [] => true
  | .mk d none hx :: hs, .ExceptHandler (some (.Name x _)) none [b0] _ :: hds => decide (x = W.cn d) && glB M x && excK W d && hxB M hx b0 && hsB W M hs hds
  | _, _ => false
mutual
def mS (W : Wd) (fr : Bool) (M : Mt) : U.S → Stmt → Bool
  | .ex e, st => match st with
    | .Expr v _ => notComp v && mE W e M v
    | _ => false
  | .pas, st => match st with
    | .Expr (.Constant (.str _) _ _) _ => true
    | .Pass _ => true
    | _ => false
  | .set i e, st => match st with
    | .Assign [.Name x px] v _ => (notComp v && locB M x i && mE W e M v) || (match e with
      | .lst (.comp a tg it w ts) => compB M i x px v && mL W (.comp a tg it w ts) M v
      | .hlst (.comp a tg it w ts) => compB M i x px v && mL W (.comp a tg it w ts) M v
      | _ => false)
    | _ => false
  | .setl i l, st => match st with
    | .Assign [.Name x px] v _ => (notComp v && locB M x i && mL W l M v) || (match l with
      | .comp a tg it w ts => compB M i x px v && mL W (.comp a tg it w ts) M v
      | _ => false)
    | _ => false
  | .setd i d, st => match st with
    | .Assign [.Name x px] v _ => notComp v && locB M x i && mD W d M v
    | _ => false
  | .unp is e, st => match st with
    | .Assign [.Tuple es _ _] v _ => nmB M es is && wOk v && mE W e M v
    | _ => false
  | .setf a k e, st => match st with
    | .Assign [.Attribute o f _] v _ => decide (f = W.an k) && mE W a M o && mE W e M v
    | _ => false
  | .setr k e, st => match st with
    | .Assign [.Attribute (.Name x _) f _] v _ => decide (f = W.an k) && visB M x 0 && mE W e M v
    | _ => false
  | .seti a b e, st => match st with
    | .Assign [.Subscript x y _] v _ => notSlice y && mE W a M x && mE W b M y && mE W e M v
    | _ => false
  | .seto i b e, st => match st with
    | .Assign [.Subscript (.Name x _) y _] v _ => visB M x i && notSlice y && mE W b M y && mE W e M v
    | _ => false
  | .aug i o e, st => match st with
    | .AugAssign (.Name x _) op v _ => opIs o op && locB M x i && mE W e M v
    | _ => false
  | .augf a k o e, st => match st with
    | .AugAssign (.Attribute ob f _) op v _ => opIs o op && decide (f = W.an k) && mE W a M ob && mE W e M v
    | _ => false
  | .augo i b o e, st => match st with
    | .AugAssign (.Subscript (.Name x _) y _) op v _ => opIs o op && visB M x i && notSlice y && mE W b M y && mE W e M v
    | _ => false
  | .ite t x y, st => match st with
    | .If c a b _ => mT W t M c && mSs W fr M x a && mSs W fr M y b
    | _ => false
  | .whl t x, st => match st with
    | .While c a [] _ => mT W t M c && mSs W fr M x a
    | _ => false
  | .for_ tg it x, st => match st with
    | .For t i a [] _ => notSet i && mI W it M i && mG M tg t && mSs W fr M x a
    | _ => false
  | .ret e, st => match st with
    | .Return (some v) _ => !fr && mE W e M v
    | _ => false
  | .retl l, st => match st with
    | .Return (some v) _ => fr && mL W l M v
    | _ => false
  | .retd d, st => match st with
    | .Return (some v) _ => fr && mD W d M v
    | _ => false
  | .reto i, st => match st with
    | .Return (some (.Name x _)) _ => fr && visB M x i
    | _ => false
  | .retn, st => match st with
    | .Return none _ => !fr
    | _ => false
  | .brk, st => match st with
    | .Break _ => true
    | _ => false
  | .cnt, st => match st with
    | .Continue _ => true
    | _ => false
  | .rse c es, st => match st with
    | .Raise (some (.Call (.Name x _) [.Constant (.str z) _ _] [] _)) none _ => decide (x = W.cn c) && glB M x && excB W c && (match es with
      | .cons (.str y) .nil => decide (y = z)
      | _ => false)
    | _ => false
  | .nev, _ => true
  | .try_ x hs, st => match st with
    | .Try a (h0 :: hds) [] [] _ => mSs W fr M x a && hsB W M hs (h0 :: hds)
    | _ => false
  | _, _ => false
def mSs (W : Wd) (fr : Bool) (M : Mt) : Ss → List Stmt → Bool
  | .nil, l => match l with
    | [] => true
    | _ => false
  | .cons s ss, l => match l with
    | st :: r => mS W fr M s st && mSs W fr M ss r
    | [] => false
end
/-- a def's frame -/
structure Dx (X : Cx) : Prop where
  po : PassesOwn (model X.prog X.w) X.A X.env X.xe
  st : X.stack = X.env :: X.outer
  fr : X.env.frame = some X.env.locals
section
variable {W : Wd} {ev : Ev} {M : Mt} {X : Cx} {wx : WX} {k : Nat} {fr : Bool}
theorem isLoc_ok {o : Option NameKind} (h : isLoc o = true) : o = some .local := by
  cases o with
  | none => cases h
  | some kd => cases kd <;> first | rfl | cases h
theorem fnKd_ok {o : ScopeKind} (h : fnKd o = true) : o = .function := by
  cases o <;> first | rfl | cases h
theorem okC (L : Late W ev) (hx : ∀ cc cl, W.G.cls cc = some cl → cl.exc = true → cl.flds = []) {a : E} {tg : Tg} {it : IE} {w : List Nat} {ts : Ts} {i : Nat} {y : Str} {py spos : Pos} {e : Expr} (m : Mx M X) (ct : Ct W X ev k wx) (h1 : compB M i y py e = true) (h2 : mL W (.comp a tg it w ts) M e = true) :
    PS X (.Assign [.Name y py] e spos) (fun D σ H => rd W X wx (rL W X) (evL ev (.comp a tg it w ts)) σ H fun v H1 => D.nx (σ.set i (some v)) H1) := by
  unfold mL at h2
  split at h2
  · simp only [Bool.and_eq_true, decide_eq_true_eq] at h2
    obtain ⟨⟨⟨⟨⟨⟨⟨h0, h1'⟩, h2'⟩, h3⟩, h4⟩, h5⟩, h6⟩, h7⟩ := h2
    subst h0
    unfold compB at h1
    simp only [Bool.and_eq_true, decide_eq_true_eq, Bool.not_eq_true'] at h1
    obtain ⟨⟨⟨⟨c1, c2⟩, c3⟩, c4⟩, c5⟩ := h1
    refine s_comp ct (by rw [m.N]; exact c1) (by rw [m.sc]; exact isLoc_ok c2) (by rw [m.sc]; exact fnKd_ok c3) c4 c5 (own := ownOf M.N w) (by rw [m.N, m.sc]; exact blkOk_by h1') own_ix (fun i hi => by simpa using List.all_eq_true.mp h2' i hi) h3 (okI L hx it M X wx k _ _ m ct h4) (fun s H C cl fp => g_ok (mx_blk m) ct.calm ct.nd h5)
      (fun s H C cl fp => okTs L hx ts _ _ wxF k _ (mx_blk m) ct.blk h6) (fun s H C cl fp => okE L hx a _ _ wxF k _ (mx_blk m) ct.blk h7)
  · cases h2
theorem excB_ok {c : Nat} (h : excB W c = true) : ∃ cl, W.G.cls c = some cl ∧ cl.exc = true ∧ cl.flds = [] := by
  unfold excB at h
  split at h
  · rename_i cl e
    simp only [Bool.and_eq_true, List.isEmpty_iff] at h
    exact ⟨cl, e, h.1, h.2⟩
  · cases h
theorem excK_ok {c : Nat} (h : excK W c = true) : ∃ cl, W.G.cls c = some cl ∧ cl.exc = true := by
  unfold excK at h
  split at h
  · rename_i cl e
    exact ⟨cl, e, h⟩
  · cases h
theorem cst_ok {X : Cx} {y : PV} {e : Expr} (h : cstB y e = true) : ∃ v, pvV y = some v ∧ PE X e (tC v) ∧ notComp e = true := by
  unfold cstB at h
  split at h
  · exact ⟨_, rfl, pe_non, rfl⟩
  · cases (beq_iff_eq.mp h); exact ⟨_, rfl, pe_bl, rfl⟩
  · cases (of_decide_eq_true h); exact ⟨_, rfl, pe_int, rfl⟩
  · cases (of_decide_eq_true h); exact ⟨_, rfl, pe_str, rfl⟩
  · cases h
theorem hx_ok {hx : Hx} {b0 : Stmt} (m : Mx M X) (hN : X.N.Nodup) (h : hxB M hx b0 = true) : ∃ v, pvV (hxV hx) = some v ∧ ∀ (a : Addr) (oe : Obj) (pn : List (Addr × Obj)), PSs (X.suite a ((a, oe) :: pn)) [b0] (rHx hx v) := by
  unfold hxB at h
  split at h
  · rename_i y e p
    obtain ⟨v, hv, _, _⟩ := cst_ok (X := X) h
    refine ⟨v, hv, fun a oe pn => ?_⟩
    obtain ⟨v', hv', pe, _⟩ := cst_ok (X := X.suite a ((a, oe) :: pn)) h
    have : v' = v := by
      have e1 : pvV y = some v := hv
      rw [hv'] at e1
      exact Option.some.inj e1
    subst this
    exact pss_one (ps_ret pe)
  · rename_i i y x px e p
    simp only [Bool.and_eq_true] at h
    obtain ⟨q1, q2, q3⟩ := loc_ok m h.1
    obtain ⟨v, hv, _, _⟩ := cst_ok (X := X) h.2
    refine ⟨v, hv, fun a oe pn => ?_⟩
    obtain ⟨v', hv', pe, nc⟩ := cst_ok (X := X.suite a ((a, oe) :: pn)) h.2
    have : v' = v := by
      have e1 : pvV y = some v := hv
      rw [hv'] at e1
      exact Option.some.inj e1
    subst this
    exact pss_one (ps_set (X := X.suite a ((a, oe) :: pn)) hN q1 q2 pe (swaps_of nc) q3)
  · cases h
theorem hs_ok (m : Mx M X) (ct : Ct W X ev k wx) : ∀ {hs : List Hd} {hds : List ExceptHandler}, hsB W M hs hds = true → ∃ l, HdR W X hds hs l := by
  intro hs
  induction hs with
  | nil =>
    intro hds h
    cases hds with
    | nil => exact ⟨[], .nil⟩
    | cons _ _ => cases h
  | cons hd hs ih =>
    intro hds h
    unfold hsB at h
    split at h
    · rename_i e2
      cases e2
    · rename_i d hx hs' x px b0 pos' hds' e1
      cases e1
      simp only [Bool.and_eq_true, decide_eq_true_eq] at h
      obtain ⟨⟨⟨⟨h1, h2⟩, h3⟩, h4⟩, h5⟩ := h
      subst h1
      obtain ⟨cl, g, ex⟩ := excK_ok h3
      obtain ⟨g1, g2⟩ := gl_ok m h2
      obtain ⟨v, hv, hp⟩ := hx_ok m ct.nd h4
      obtain ⟨l, r⟩ := ih h5
      exact ⟨_, .cons g ex hv ⟨g1, g2, .inl (ct.kf.gcl d cl g)⟩ (fun a oe _ _ pn _ _ => hp a oe pn) r⟩
    · cases h
theorem Ct.tr (c : Ct W X ev k wx) {wx' : WX} {pn : List (Addr × Obj)} {xe : Value → Shared → Prop} (h : Takes (X.tr pn xe) wx') : Ct W (X.tr pn xe) ev k wx' := ⟨c.kf, c.g, c.fns, c.fnsI, c.room, c.calm, c.nd, h⟩
mutual
theorem okS (L : Late W ev) (hx : ∀ cc cl, W.G.cls cc = some cl → cl.exc = true → cl.flds = []) : ∀ (s : U.S) (X : Cx) (wx : WX) (st : Stmt), Mx M X → Ct W X ev k wx → Dx X → mS W fr M s st = true → PS X st (rdS W X wx fr (evS ev s))
  | .ex e, X, wx, st, m, ct, dx, h => by
    unfold mS at h
    split at h
    · simp only [Bool.and_eq_true] at h
      exact s_ex (okE L hx e M X wx k _ m ct h.2) h.1
    · cases h
  | .pas, X, wx, st, m, ct, dx, h => by
    unfold mS at h
    split at h
    · exact s_doc
    · exact s_pas
    · cases h
  | .set i e, X, wx, st, m, ct, dx, h => by
    unfold mS at h
    split at h
    · rw [Bool.or_eq_true] at h
      rcases h with h | h
      · simp only [Bool.and_eq_true] at h
        obtain ⟨⟨h1, h2⟩, h3⟩ := h
        obtain ⟨q1, q2, q3⟩ := loc_ok m h2
        exact s_set ct q1 q2 q3 h1 (okE L hx e M X wx k _ m ct h3)
      · split at h
        · simp only [Bool.and_eq_true] at h
          exact s_setC (okC L hx m ct h.1 h.2)
        · simp only [Bool.and_eq_true] at h
          exact s_setH (okC L hx m ct h.1 h.2)
        · cases h
    · cases h
  | .setl i l, X, wx, st, m, ct, dx, h => by
    unfold mS at h
    split at h
    · rw [Bool.or_eq_true] at h
      rcases h with h | h
      · simp only [Bool.and_eq_true] at h
        obtain ⟨⟨h1, h2⟩, h3⟩ := h
        obtain ⟨q1, q2, q3⟩ := loc_ok m h2
        exact s_setl ct q1 q2 q3 h1 (okL L hx l M X wx k _ m ct h3)
      · split at h
        · simp only [Bool.and_eq_true] at h
          exact s_setlC (okC L hx m ct h.1 h.2)
        · cases h
    · cases h
  | .setd i d, X, wx, st, m, ct, dx, h => by
    unfold mS at h
    split at h
    · simp only [Bool.and_eq_true] at h
      obtain ⟨⟨h1, h2⟩, h3⟩ := h
      obtain ⟨q1, q2, q3⟩ := loc_ok m h2
      exact s_setd ct q1 q2 q3 h1 (okD L hx d M X wx k _ m ct h3)
    · cases h
  | .unp is e, X, wx, st, m, ct, dx, h => by
    unfold mS at h
    split at h
    · simp only [Bool.and_eq_true] at h
      obtain ⟨⟨h1, h2⟩, h3⟩ := h
      exact s_unp ct (nm_ok m h1) h2 (okE L hx e M X wx k _ m ct h3)
    · cases h
  | .setf a f e, X, wx, st, m, ct, dx, h => by
    unfold mS at h
    split at h
    · simp only [Bool.and_eq_true, decide_eq_true_eq] at h
      obtain ⟨⟨h1, h2⟩, h3⟩ := h
      subst h1
      exact s_setf ct (okE L hx a M X wx k _ m ct h2) (okE L hx e M X wx k _ m ct h3)
    · cases h
  | .setr f e, X, wx, st, m, ct, dx, h => by
    unfold mS at h
    split at h
    · simp only [Bool.and_eq_true, decide_eq_true_eq] at h
      obtain ⟨⟨h1, h2⟩, h3⟩ := h
      subst h1
      obtain ⟨q1, q2, q3, q4⟩ := vis_ok m h2
      exact s_setr ct q1 q2 q3 q4 (okE L hx e M X wx k _ m ct h3)
    · cases h
  | .seti a b e, X, wx, st, m, ct, dx, h => by
    unfold mS at h
    split at h
    · simp only [Bool.and_eq_true] at h
      obtain ⟨⟨⟨h1, h2⟩, h3⟩, h4⟩ := h
      exact s_seti ct h1 (okE L hx a M X wx k _ m ct h2) (okE L hx b M X wx k _ m ct h3) (okE L hx e M X wx k _ m ct h4)
    · cases h
  | .seto i b e, X, wx, st, m, ct, dx, h => by
    unfold mS at h
    split at h
    · simp only [Bool.and_eq_true] at h
      obtain ⟨⟨⟨h1, h2⟩, h3⟩, h4⟩ := h
      obtain ⟨q1, q2, q3, q4⟩ := vis_ok m h1
      exact s_seto ct h2 q1 q2 q3 q4 (okE L hx b M X wx k _ m ct h3) (okE L hx e M X wx k _ m ct h4)
    · cases h
  | .aug i o e, X, wx, st, m, ct, dx, h => by
    unfold mS at h
    split at h
    · simp only [Bool.and_eq_true] at h
      obtain ⟨⟨h1, h2⟩, h3⟩ := h
      have e1 := opIs_ok h1
      subst e1
      obtain ⟨q1, q2, q3⟩ := loc_ok m h2
      exact s_aug ct q1 q2 q3 (okE L hx e M X wx k _ m ct h3)
    · cases h
  | .augf a f o e, X, wx, st, m, ct, dx, h => by
    unfold mS at h
    split at h
    · simp only [Bool.and_eq_true, decide_eq_true_eq] at h
      obtain ⟨⟨⟨h1, h2⟩, h3⟩, h4⟩ := h
      have e1 := opIs_ok h1
      subst e1
      subst h2
      exact s_augf ct hx (okE L hx a M X wx k _ m ct h3) (okE L hx e M X wx k _ m ct h4)
    · cases h
  | .augo i b o e, X, wx, st, m, ct, dx, h => by
    unfold mS at h
    split at h
    · simp only [Bool.and_eq_true] at h
      obtain ⟨⟨⟨⟨h1, h2⟩, h3⟩, h4⟩, h5⟩ := h
      have e1 := opIs_ok h1
      subst e1
      obtain ⟨q1, q2, q3, q4⟩ := vis_ok m h2
      exact s_augo ct h3 q1 q2 q3 q4 (okE L hx b M X wx k _ m ct h4) (okE L hx e M X wx k _ m ct h5)
    · cases h
  | .ite t x y, X, wx, st, m, ct, dx, h => by
    unfold mS at h
    split at h
    · simp only [Bool.and_eq_true] at h
      obtain ⟨⟨h1, h2⟩, h3⟩ := h
      exact s_ite (okT L hx t M X wx k _ m ct h1).1 (okSs L hx x X wx _ m ct dx h2) (okSs L hx y X wx _ m ct dx h3)
    · cases h
  | .whl t x, X, wx, st, m, ct, dx, h => by
    unfold mS at h
    split at h
    · simp only [Bool.and_eq_true] at h
      exact s_whl dx.po (okT L hx t M X wx k _ m ct h.1).1 (okSs L hx x X wx _ m ct dx h.2)
    · cases h
  | .for_ tg it x, X, wx, st, m, ct, dx, h => by
    unfold mS at h
    split at h
    · simp only [Bool.and_eq_true] at h
      obtain ⟨⟨⟨h1, h2⟩, h3⟩, h4⟩ := h
      exact s_for ct dx.po h1 (okI L hx it M X wx k _ _ m ct h2) (g_ok m ct.calm ct.nd h3) (okSs L hx x X wx _ m ct dx h4)
    · cases h
  | .ret e, X, wx, st, m, ct, dx, h => by
    unfold mS at h
    split at h
    · simp only [Bool.and_eq_true, Bool.not_eq_true'] at h
      obtain ⟨h1, h2⟩ := h
      subst h1
      exact s_ret (okE L hx e M X wx k _ m ct h2)
    · cases h
  | .retl l, X, wx, st, m, ct, dx, h => by
    unfold mS at h
    split at h
    · simp only [Bool.and_eq_true] at h
      obtain ⟨h1, h2⟩ := h
      subst h1
      exact s_retl (okL L hx l M X wx k _ m ct h2)
    · cases h
  | .retd d, X, wx, st, m, ct, dx, h => by
    unfold mS at h
    split at h
    · simp only [Bool.and_eq_true] at h
      obtain ⟨h1, h2⟩ := h
      subst h1
      exact s_retd (okD L hx d M X wx k _ m ct h2)
    · cases h
  | .reto i, X, wx, st, m, ct, dx, h => by
    unfold mS at h
    split at h
    · simp only [Bool.and_eq_true] at h
      obtain ⟨h1, h2⟩ := h
      subst h1
      obtain ⟨q1, q2, q3, q4⟩ := vis_ok m h2
      exact s_reto q1 q2 q3 q4
    · cases h
  | .retn, X, wx, st, m, ct, dx, h => by
    unfold mS at h
    split at h
    · simp only [Bool.not_eq_true'] at h
      subst h
      exact s_retn
    · cases h
  | .brk, X, wx, st, m, ct, dx, h => by
    unfold mS at h
    split at h
    · exact s_brk
    · cases h
  | .cnt, X, wx, st, m, ct, dx, h => by
    unfold mS at h
    split at h
    · exact s_cnt
    · cases h
  | .rse c es, X, wx, st, m, ct, dx, h => by
    unfold mS at h
    split at h
    · simp only [Bool.and_eq_true, decide_eq_true_eq] at h
      obtain ⟨⟨⟨h1, h2⟩, h3⟩, h4⟩ := h
      subst h1
      obtain ⟨cl, g, ex, fl⟩ := excB_ok h3
      obtain ⟨g1, g2⟩ := gl_ok m h2
      split at h4
      · cases (of_decide_eq_true h4)
        exact s_rse ct g ex fl g1 g2
      · cases h4
    · cases h
  | .nev, X, wx, st, m, ct, dx, h => s_nev
  | .try_ x hs, X, wx, st, m, ct, dx, h => by
    unfold mS at h
    split at h
    · simp only [Bool.and_eq_true] at h
      obtain ⟨h1, h2⟩ := h
      obtain ⟨l, hl⟩ := hs_ok m ct h2
      exact s_try ct dx.st dx.fr (fun wx' pn xe t1 t2 => okSs L hx x (X.tr pn xe) wx' _ ⟨m.N, m.sc, m.fx⟩ (ct.tr t1) ⟨t2, dx.st, dx.fr⟩ h1) hl
    · cases h
  | .par2 _ _ _ _, X, wx, st, m, ct, dx, h => by unfold mS at h; cases h
  | .augi _ _ _ _, X, wx, st, m, ct, dx, h => by unfold mS at h; cases h
theorem okSs (L : Late W ev) (hx : ∀ cc cl, W.G.cls cc = some cl → cl.exc = true → cl.flds = []) : ∀ (s : Ss) (X : Cx) (wx : WX) (l : List Stmt), Mx M X → Ct W X ev k wx → Dx X → mSs W fr M s l = true → PSs X l (rdS W X wx fr (evSs ev s))
  | .nil, X, wx, l, m, ct, dx, h => by
    unfold mSs at h
    split at h
    · exact ss_nil
    · cases h
  | .cons s ss, X, wx, l, m, ct, dx, h => by
    unfold mSs at h
    split at h
    · simp only [Bool.and_eq_true] at h
      exact ss_cons (okS L hx s X wx _ m ct dx h.1) (okSs L hx ss X wx _ m ct dx h.2)
    · cases h
end
end
end U
namespace U
open PySem PySem.Spec L2 PyProof.Rows
section
variable {W : Wd} {P : Program} {w : World} {K : PySem.W.Frag} {mg : Str → Option Value} {base : Heap}
/-- how a def binds -/
def Bnd (W : Wd) (w : World) (K : PySem.W.Frag) (fdata : FuncData) (ps : List Str) (kw : List (Nat × List Str)) (dfl : List PV) : Prop :=
  ∀ (s : Shared) (us ws : List Value) (ks : List Str), K.In s.heap → ws.length = ks.length → (ks = [] ∨ (us.length, ks) ∈ kw) → us.length + ws.length ≤ ps.length → ps.length ≤ us.length + ws.length + dfl.length →
    ∃ ds dvs, Vals dvs ds ∧ (∀ S H, Reps W K w S H dvs (dfl.drop (dfl.length - (ps.length - (us.length + ws.length))))) ∧ BindsTo s fdata ⟨us, ks.zip ws⟩ (ps.zip (us ++ ws ++ ds))
/-- the promise by all values -/
def spG (W : Wd) (K : PySem.W.Frag) (w : World) (cal : Cal) (f : Nat) (fd : Fd) : Sp := fun vs H Q E => match fd.kind with
  | none => ∃ S h args, HInv W K w S h H ∧ Reps W K w S H vs args ∧ args.length = fd.np ∧ (match fd.fresh with
      | false => PostC W K w S H Q E (cal f args h)
      | true => PostF W K w S H Q E (cal f args h))
  | some c => ∃ S h args p dx us, vs = .ref p :: us ∧ H p = some (.ins (ca W K c) dx []) ∧ ¬ S.F p ∧ p ∉ S.rh ∧ HInv W K w S h (delH H p) ∧ Reps W K w S (delH H p) us args ∧ args.length = fd.np ∧ PostI W K w S H p Q E (cal f args h)
theorem body_len {ev : Ev} {fd : Fd} {args : List PV} {h : Hb} (n : body ev fd args h ≠ .no) : args.length = fd.np := by
  unfold body at n
  split at n
  · by_cases l : args.length = fd.np
    · exact l
    · rw [if_neg l] at n; exact absurd rfl n
  · by_cases l : args.length = fd.np
    · exact l
    · rw [if_neg l] at n; exact absurd rfl n
theorem q_of {fno : Nat} {fd : Fd} {fdata : FuncData} {ps : List Str} {k d wf : Nat} (g : W.G.fns fno = some fd) (hp : match fd.kind with | none => ps.length = fd.np | some _ => ps.length = fd.np + 1)
    (F : FnOk P w K mg base (CX P w) k (fa W K fno) fdata ps (spG W K w (run W.G wf (d + 1)) fno fd)) (B : Bnd W w K fdata ps (W.kw fno) fd.dfl) : FnQ P w K mg base k (fa W K fno) (W.kw fno) (spF W K w (run W.G wf (d + 1)) fno fd) := by
  intro A outer s H us ws ks vs Q E hr e0 rv l c hs
  have KX : K.In s.heap := e0.mod.kin.keeps fun b o e => (e0.bs b o e).1
  have dl : ∀ {args : List PV} {h : Hb}, run W.G wf (d + 1) fno (dft W.G fno args) h ≠ .no → (dft W.G fno args).length = fd.np := fun {args h} n => by
    rw [run_succ, g] at n
    exact body_len n
  have de : ∀ {args : List PV}, dft W.G fno args = args ++ fd.dfl.drop (fd.dfl.length - (fd.np - args.length)) := fun {args} => by unfold dft; rw [g]
  have dlen : ∀ {n : Nat}, (fd.dfl.drop (fd.dfl.length - n)).length = min n fd.dfl.length := fun {n} => by rw [List.length_drop]; omega
  cases ek : fd.kind with
  | none =>
    rw [ek] at hp
    unfold spF at hs
    rw [ek] at hs
    obtain ⟨S, h, args, hi, r, post⟩ := hs
    have nn : run W.G wf (d + 1) fno (dft W.G fno args) h ≠ .no := fun z => by
      rw [z] at post
      cases fr : fd.fresh <;> rw [fr] at post <;> exact post.elim
    have l1 := dl nn
    have la : vs.length = args.length := r.len
    have lv : vs.length = us.length + ws.length := by rw [rv.length, List.length_append]
    rw [de, List.length_append, dlen] at l1
    have hp' : ps.length = fd.np := hp
    obtain ⟨ds, dvs, q1, q2, q3⟩ := B s us ws ks KX l c (by omega) (by omega)
    have en : ps.length - (us.length + ws.length) = fd.np - args.length := by omega
    have q2' := q2 S H
    rw [en] at q2'
    refine F.run A outer s H ⟨us, ks.zip ws⟩ (us ++ ws ++ ds) (vs ++ dvs) Q E hr e0 q3 (rv.append q1) ?_
    unfold spG
    rw [ek]
    refine ⟨S, h, args ++ fd.dfl.drop (fd.dfl.length - (fd.np - args.length)), hi, r.app q2', by rw [List.length_append, dlen]; omega, ?_⟩
    rw [de] at post
    exact post
  | some cc =>
    rw [ek] at hp
    unfold spF at hs
    rw [ek] at hs
    obtain ⟨S, h, args, p, dx, us', ev', h1, h2, h3, hi, r, post⟩ := hs
    have nn : run W.G wf (d + 1) fno (dft W.G fno args) h ≠ .no := fun z => by
      rw [z] at post
      exact post.elim
    have l1 := dl nn
    have la : us'.length = args.length := r.len
    have lv : vs.length = us.length + ws.length := by rw [rv.length, List.length_append]
    rw [ev', List.length_cons] at lv
    rw [de, List.length_append, dlen] at l1
    have hp' : ps.length = fd.np + 1 := hp
    obtain ⟨ds, dvs, q1, q2, q3⟩ := B s us ws ks KX l c (by omega) (by omega)
    have en : ps.length - (us.length + ws.length) = fd.np - args.length := by omega
    have q2' := q2 S (delH H p)
    rw [en] at q2'
    refine F.run A outer s H ⟨us, ks.zip ws⟩ (us ++ ws ++ ds) (vs ++ dvs) Q E hr e0 q3 (rv.append q1) ?_
    unfold spG
    rw [ek]
    refine ⟨S, h, args ++ fd.dfl.drop (fd.dfl.length - (fd.np - args.length)), p, dx, us' ++ dvs, by rw [ev']; rfl, h1, h2, h3, hi, r.app q2', by rw [List.length_append, dlen]; omega, ?_⟩
    rw [de] at post
    exact post
/-- the slots at a def's entry -/
theorem start_at {N : List Str} {vs : List V} {i : Nat} {v : Option V} (h : (L2.start N vs)[i]? = some v) : (i < vs.length ∧ ∃ u, vs[i]? = some u ∧ v = some u) ∨ (vs.length ≤ i ∧ v = none) := by
  unfold L2.start at h
  by_cases l : i < vs.length
  · rw [List.getElem?_append_left (by rw [List.length_map]; exact l), List.getElem?_map] at h
    left
    cases e : vs[i]? with
    | none => rw [e] at h; cases h
    | some u => rw [e] at h; cases h; exact ⟨l, u, rfl, rfl⟩
  · rw [List.getElem?_append_right (by rw [List.length_map]; omega)] at h
    right
    rw [List.getElem?_replicate] at h
    split at h
    · cases h; exact ⟨by omega, rfl⟩
    · cases h
theorem start_len {N : List Str} {vs : List V} (h : vs.length ≤ N.length) : (L2.start N vs).length = N.length := by
  unfold L2.start
  rw [List.length_append, List.length_map, List.length_replicate]
  omega
theorem start_sim {S : Syn} {h : Hb} {H : Hp} {vs : List V} {args : List PV} {N : List Str} {n : Nat} (hi : HInv W K w S h H) (r : Reps W K w S H vs args) (l : vs.length ≤ N.length) (hn : N.length = n) (me : Addr) :
    Sim W K w ⟨S, H, me⟩ S { sl := args.map .val ++ List.replicate (n - args.length) .un, hp := h } (L2.start N vs) H := by
  have la := r.len
  have no : ∀ (i : Nat) q, (args.map Sl.val ++ List.replicate (n - args.length) Sl.un)[i]? = some q → isOwn q = false ∧ ((∃ x, args[i]? = some x ∧ q = .val x) ∨ q = .un) := fun i q e => by
    by_cases li : i < args.length
    · rw [List.getElem?_append_left (by rw [List.length_map]; exact li), List.getElem?_map] at e
      obtain ⟨x, e1, e2⟩ := Option.map_eq_some_iff.mp e
      subst e2
      exact ⟨rfl, .inl ⟨x, e1, rfl⟩⟩
    · rw [List.getElem?_append_right (by rw [List.length_map]; omega), List.getElem?_replicate] at e
      split at e
      · cases e; exact ⟨rfl, .inr rfl⟩
      · cases e
  refine ⟨Rel.refl, hi, ?_, fun i q v e1 e2 => ?_, fun i j q t p ne h1 h2 o1 => by rw [(no i q h1).1] at o1; cases o1⟩
  · rw [start_len l]
    show N.length = (args.map Sl.val ++ List.replicate (n - args.length) Sl.un).length
    rw [List.length_append, List.length_map, List.length_replicate]
    omega
  · rcases (no i q e1).2 with ⟨x, ex, eq⟩ | eq
    · subst eq
      rcases start_at e2 with ⟨li, u, eu, ev'⟩ | ⟨li, ev'⟩
      · subst ev'
        obtain ⟨u', eu', ru⟩ := r.get i ex
        rw [eu] at eu'
        cases eu'
        exact .val ru
      · have := (List.getElem?_eq_some_iff.mp ex).1
        omega
    · subst eq
      exact .un
/-- the wish of a def -/
abbrev wxE (E : XK) : WX := fun cls d _ H => E cls d H
section
variable {x qual : Str} {params : Arguments} {bd : List Stmt} {scope : Scope} {dvs : List V} {kws : List (Str × V)} {f : Addr} {fdata : FuncData} {N ps : List Str}
theorem ok_def {fno : Nat} {fd : Fd} {wf d : Nat} (g : W.G.fns fno = some fd) (F : FunD K x qual params bd scope dvs kws f fdata) (Sc : FnScope N ps scope) (hN : N.length = fd.ns) (hpN : ps.length ≤ N.length)
    (hp : match fd.kind with | none => ps.length = fd.np | some c => ps.length = fd.np + 1 ∧ fd.fresh = false ∧ (W.G.cls c).isSome = true) (hm : mSs W fd.fresh ⟨N, scope, true⟩ fd.body bd = true)
    (L : ∀ ev : Ev, ev.G = W.G → Late W ev) (hx : ∀ cc cl, W.G.cls cc = some cl → cl.exc = true → cl.flds = []) (kf : Kf W K w mg) (h1 : Fns W P w K mg base (run W.G wf d) (d + 1)) (h2 : Fns W P w K mg base (run W.G wf (d - 1)) d) :
    FnOk P w K mg base (CX P w) (d + 2) f fdata ps (spG W K w (run W.G wf (d + 1)) fno fd) := by
  have len : ∀ vs H Q E, spG W K w (run W.G wf (d + 1)) fno fd vs H Q E → vs.length = ps.length := fun vs H Q E h => by
    unfold spG at h
    cases ek : fd.kind with
    | none =>
      rw [ek] at h hp
      obtain ⟨S, h, args, hi, r, l, _⟩ := h
      have hp : ps.length = fd.np := hp
      rw [r.len, l, hp]
    | some c =>
      rw [ek] at h hp
      obtain ⟨S, h, args, p, dx, us, e, _, _, _, _, r, l, _⟩ := h
      have hp : ps.length = fd.np + 1 ∧ fd.fresh = false ∧ (W.G.cls c).isSome = true := hp
      rw [e, List.length_cons, r.len, l, hp.1]
  refine F.ok Sc len fun cdv A outer s H vs Q E hr hsp => ?_
  have vl := len _ _ _ _ hsp
  let X := cxOf (CX P w) P w K mg base N qual scope f cdv A outer s H E
  have ct : Ct W X ⟨W.G, run W.G wf d, run W.G wf (d - 1), wf⟩ d (wxE E) := ⟨kf, rfl, h1, h2, hr, rfl, Sc.nd, takes_of rfl rfl rfl rfl⟩
  have dx : Dx X := ⟨passes_of rfl, rfl, rfl⟩
  have mx : Mx ⟨N, scope, true⟩ X := ⟨rfl, rfl, fun _ _ => rfl⟩
  refine ⟨rdS W X (wxE E) fd.fresh (evSs ⟨W.G, run W.G wf d, run W.G wf (d - 1), wf⟩ fd.body), okSs (L _ rfl) hx fd.body X (wxE E) bd mx ct dx hm, ?_⟩
  unfold spG at hsp
  cases ek : fd.kind with
  | none =>
    rw [ek] at hsp hp
    obtain ⟨S, h, args, hi, r, l, post⟩ := hsp
    have hp : ps.length = fd.np := hp
    have s0 := start_sim (N := N) hi r (by omega) hN 0
    rw [l] at s0
    refine ⟨⟨S, H, 0⟩, S, _, s0, ?_⟩
    have er : run W.G wf (d + 1) fno args h = (match evSs ⟨W.G, run W.G wf d, run W.G wf (d - 1), wf⟩ fd.body { sl := args.map .val ++ List.replicate (fd.ns - fd.np) .un, hp := h } with
        | .ok .nx fs => .ok .non fs.hp
        | .ok (.rt v) fs => .ok v fs.hp
        | .ok .bk _ => .no
        | .ok .ct _ => .no
        | .ex c ws fs => .ex c ws fs.hp
        | .no => .no) := by
      rw [run_succ, g]
      show body _ fd args h = _
      unfold body
      rw [ek]
      show (if args.length = fd.np then _ else R.no) = _
      rw [if_pos l] <;> rfl
    rw [er] at post
    cases rr : evSs ⟨W.G, run W.G wf d, run W.G wf (d - 1), wf⟩ fd.body { sl := args.map .val ++ List.replicate (fd.ns - fd.np) .un, hp := h } with
    | no =>
      rw [rr] at post
      cases fr : fd.fresh <;> rw [fr] at post <;> exact post.elim
    | ex c ws fs =>
      rw [rr] at post
      cases fr : fd.fresh <;> rw [fr] at post <;> exact fun cls dd σ' H' S' s' e' xx => post cls dd H' S' s'.hi s'.rel xx
    | ok fl fs =>
      rw [rr] at post
      cases fl with
      | bk => cases fr : fd.fresh <;> rw [fr] at post <;> exact post.elim
      | ct => cases fr : fd.fresh <;> rw [fr] at post <;> exact post.elim
      | nx =>
        cases fr : fd.fresh with
        | true => rw [fr] at post; exact absurd post.1 (by decide)
        | false =>
          rw [fr] at post
          exact fun σ' H' S' s' e' => post .non H' S' s'.hi s'.rel .n
      | rt v =>
        cases fr : fd.fresh with
        | true =>
          rw [fr] at post
          exact ⟨post.1, fun p H' S' rl hi' ow fr' => post.2 p H' S' hi' rl ow.2.2 ow.1 ow.2.1 fr'⟩
        | false =>
          rw [fr] at post
          exact fun v' H' S' rl hi' rv => post v' H' S' hi' rl rv
  | some c =>
    rw [ek] at hsp hp
    obtain ⟨S, h, args, p, dx', us, ev', hp1, n1, n2, hi, r, l, post⟩ := hsp
    have hp : ps.length = fd.np + 1 ∧ fd.fresh = false ∧ (W.G.cls c).isSome = true := hp
    subst ev'
    have hz : delH H p p = none := by unfold delH; rw [if_pos rfl]
    have hH : upd (delH H p) p (.ins (ca W K c) dx' []) = H := by
      funext b
      by_cases e : b = p
      · rw [e, upd_same, hp1]
      · rw [upd_ne e]; unfold delH; rw [if_neg e]
    have vl' : us.length + 1 = ps.length := vl
    -- the slots but self
    have s0 : Sim W K w ⟨S, delH H p, p⟩ S { sl := .un :: (args.map .val ++ List.replicate (fd.ns - 1 - fd.np) .un), hp := h } (L2.start N (.ref p :: us)) (delH H p) := by
      cases N with
      | nil => rw [List.length_nil] at hpN; omega
      | cons n0 N' =>
        rw [List.length_cons] at hN hpN
        have s1 := start_sim (N := N') (n := fd.ns - 1) (me := p) hi r (by omega) (by omega)
        rw [l] at s1
        have es : L2.start (n0 :: N') (.ref p :: us) = some (.ref p) :: L2.start N' us := by
          unfold L2.start
          rw [List.map_cons, List.cons_append, List.length_cons, List.length_cons, Nat.add_sub_add_right]
        rw [es]
        refine ⟨s1.rel, s1.hi, congrArg Nat.succ s1.len, fun i q v e1 e2 => ?_, fun i j q t p' ne e1 e2 o1 o2 e3 e4 => ?_⟩
        · cases i with
          | zero => cases e1; exact .un
          | succ i => exact s1.sl i q v e1 e2
        · cases i with
          | zero => cases e1; cases o1
          | succ i =>
            cases j with
            | zero => cases e2; cases o2
            | succ j => exact s1.ap i j q t p' (fun z => ne (congrArg Nat.succ z)) e1 e2 o1 o2 e3 e4
    obtain ⟨s2, e2, l2⟩ := s0.lay (o := .ins (ca W K c) dx' []) hz
    rw [hH] at s2 e2
    have em : L2.start N (.ref p :: us) = (L2.start N (.ref p :: us)).set 0 (some (.ref p)) := by
      unfold L2.start
      rw [List.map_cons, List.cons_append, List.set_cons_zero]
    obtain ⟨cl0, gc0⟩ : ∃ cl, W.G.cls c = some cl := Option.isSome_iff_exists.mp hp.2.2
    have s3 := s2.own (q0 := .own c []) l2 0 (.own rfl l2.1 hp1 rfl ⟨cl0, gc0, fun _ m => by cases m⟩ .nil)
    rw [← em] at s3
    refine ⟨⟨S, delH H p, p⟩, S, _, s3, ?_⟩
    have er : run W.G wf (d + 1) fno args h = (match evSs ⟨W.G, run W.G wf d, run W.G wf (d - 1), wf⟩ fd.body { sl := .own c [] :: (args.map .val ++ List.replicate (fd.ns - 1 - fd.np) .un), hp := h } with
        | .ok .nx fs => match fs.sl[0]?, W.G.cls c with
          | some (Sl.own d fl), some cl => if d = c ∧ fl.map (·.1) = cl.flds then .ok (.ins c (fl.map (·.2))) fs.hp else .no
          | _, _ => .no
        | .ok _ _ => .no
        | .ex c ws fs => .ex c ws fs.hp
        | .no => .no) := by
      rw [run_succ, g]
      show body _ fd args h = _
      unfold body
      rw [ek]
      show (if args.length = fd.np then _ else R.no) = _
      rw [if_pos l] <;> rfl
    rw [er] at post
    show PsS W X (wxE E) fd.fresh _ S H _ (evSs ⟨W.G, run W.G wf d, run W.G wf (d - 1), wf⟩ fd.body { sl := .own c [] :: (args.map .val ++ List.replicate (fd.ns - 1 - fd.np) .un), hp := h })
    rw [hp.2.1]
    cases rr : evSs ⟨W.G, run W.G wf d, run W.G wf (d - 1), wf⟩ fd.body { sl := .own c [] :: (args.map .val ++ List.replicate (fd.ns - 1 - fd.np) .un), hp := h } with
    | no => rw [rr] at post; exact post.elim
    | ex c' ws fs =>
      rw [rr] at post
      exact fun cls dd σ' H' S' s' e' xx => post cls dd H' S' s'.hi s'.rel xx
    | ok fl fs =>
      rw [rr] at post
      cases fl with
      | bk => exact post.elim
      | ct => exact post.elim
      | rt v => exact post.elim
      | nx =>
        intro σ' H' S' s' e'
        have post : PostI W K w S H p Q E (match fs.sl[0]?, W.G.cls c with
          | some (Sl.own d fl), some cl => if d = c ∧ fl.map (·.1) = cl.flds then .ok (.ins c (fl.map (·.2))) fs.hp else .no
          | _, _ => .no) := post
        rw [gc0] at post
        cases es : fs.sl[0]? with
        | none => rw [es] at post; exact post.elim
        | some q =>
          rw [es] at post
          cases q with
          | own d' fl' =>
            have post : PostI W K w S H p Q E (if d' = c ∧ fl'.map (·.1) = cl0.flds then .ok (.ins c (fl'.map (·.2))) fs.hp else .no) := post
            by_cases cc : d' = c ∧ fl'.map (·.1) = cl0.flds
            · rw [if_pos cc] at post
              obtain ⟨c1, c2⟩ := cc
              subst c1
              obtain ⟨p', u', e1, o1, hu⟩ := s'.own_at es rfl
              have z := s'.sl 0 _ _ es e1
              cases z with
              | @own _ dx2 fl2 _ _ hme ow h1' n l' r' =>
                have hme : p' = p := hme
                subst hme
                refine post H' S' dx2 fl2 cl0 s'.hi s'.rel ow.1 ow.2.1 h1' gc0 ?_ r'
                rw [n, ← c2, List.map_map]
                rfl
            · rw [if_neg cc] at post; exact post.elim
          | _ => exact post.elim
end
end
end U
namespace U
open PySem PySem.Spec L2 PyProof.Rows
section
variable {W : Wd} {P : Program} {w : World} {K : PySem.W.Frag} {mg : Str → Option Value} {base : Heap}
/-- what is to be shown of a def -/
structure DefOk (W : Wd) (K : PySem.W.Frag) (w : World) (fno : Nat) (fd : Fd) : Prop where
  ex : ∃ (x qual : Str) (params : Arguments) (bd : List Stmt) (scope : Scope) (dvs : List V) (kws : List (Str × V)) (fdata : FuncData) (N ps : List Str), FunD K x qual params bd scope dvs kws (fa W K fno) fdata ∧ FnScope N ps scope ∧ N.length = fd.ns ∧ ps.length ≤ N.length ∧
    (match fd.kind with | none => ps.length = fd.np | some c => ps.length = fd.np + 1 ∧ fd.fresh = false ∧ (W.G.cls c).isSome = true) ∧ mSs W fd.fresh ⟨N, scope, true⟩ fd.body bd = true ∧ Bnd W w K fdata ps (W.kw fno) fd.dfl
theorem fns_all (wf : Nat) (hall : ∀ fno fd, W.G.fns fno = some fd → DefOk W K w fno fd) (L : ∀ ev : Ev, ev.G = W.G → Late W ev) (hx : ∀ cc cl, W.G.cls cc = some cl → cl.exc = true → cl.flds = []) (kf : Kf W K w mg) :
    ∀ d, Fns W P w K mg base (run W.G wf d) (d + 1) ∧ Fns W P w K mg base (run W.G wf (d - 1)) d := by
  have zero : ∀ k, Fns W P w K mg base (run W.G wf 0) k := fun k fno fd g A outer s H us ws ks vs Q E hr e0 rv l c hs => by
    exfalso
    unfold spF at hs
    cases ek : fd.kind with
    | none =>
      rw [ek] at hs
      obtain ⟨S, h, args, hi, r, post⟩ := hs
      cases fr : fd.fresh with
      | true =>
        rw [fr] at post
        exact (show PostF W K w S H Q E .no from post)
      | false =>
        rw [fr] at post
        exact (show PostC W K w S H Q E .no from post)
    | some c =>
      rw [ek] at hs
      obtain ⟨S, h, args, p, dx, us', ev', h1, h2, h3, hi, r, post⟩ := hs
      exact (show PostI W K w S H p Q E .no from post)
  intro d
  induction d with
  | zero => exact ⟨zero 1, zero 0⟩
  | succ d ih =>
    refine ⟨fun fno fd g => ?_, ih.1⟩
    obtain ⟨x, qual, params, bd, scope, dvs, kws, fdata, N, ps, F, Sc, hN, hpN, hp, hm, B⟩ := (hall fno fd g).ex
    refine q_of g ?_ (ok_def g F Sc hN hpN hp hm L hx kf ih.1 ih.2) B
    cases ek : fd.kind with
    | none => rw [ek] at hp; exact hp
    | some c => rw [ek] at hp; exact hp.1
end
end U
namespace U
open PySem PySem.Spec L2 PyProof.Rows
/-- the text of an entry -/
def txOf (e : Int × Value) : Str := match e.2 with
  | .str k _ => k
  | _ => ""
def TxE (w : World) (e : Int × Value) : Prop := ∃ k tk, e.2 = Value.str k tk ∧ e.1 = hashStr w k
/-- the set at a: its texts ks, in some order, its table rises -/
def TxS (w : World) (h : Heap) (a : Addr) (ks : List Str) : Prop :=
  ∃ o es ep t, h.get? a = some o ∧ o.ExactSet ∧ o.data = .set es ep t ∧ (∀ e ∈ es.toList, TxE w e) ∧ (es.toList.map txOf).Perm ks ∧ ks.Nodup ∧ es.size < scanBound ∧ t.fits es.size = true ∧ Ris t.place.toList ∧ (w.params.followText "set-order" = true ∨ t.led = true)
section
variable {P : Program} {w : World} {A : Around} {E : Value → Shared → Prop} {s : Shared} {h h' : Heap} {a : Addr} {ks : List Str}
theorem TxS.at (R : TxS w h a ks) (k : ∀ o, h.get? a = some o → h'.get? a = some o) : TxS w h' a ks := by
  obtain ⟨o, es, ep, t, ho, r⟩ := R
  exact ⟨o, es, ep, t, k o ho, r⟩
theorem tx_elems {l : List (Int × Value)} (g : ∀ e ∈ l, TxE w e) : ElemsOf (PySem.strKind P w) l := fun e he => by
  obtain ⟨k, tk, h1, h2⟩ := g e he
  exact ⟨⟨k, by rw [h1]; exact PySem.strKind_is P w k tk, by rw [h2]; rfl⟩, by rw [h1]; rfl⟩
theorem tx_is {e : Int × Value} (g : TxE w e) (k : Str) : (PySem.strKind P w).is k e.2 = true ↔ txOf e = k := by
  obtain ⟨k', tk, h1, _⟩ := g
  obtain ⟨e1, e2⟩ := e
  subst h1
  show Value.isStrOf k (.str k' tk) = true ↔ k' = k
  simp [Value.isStrOf]
/-- what a store leaves, the table laid anew if it is too full -/
theorem tx_tail {g : Bool → Sem Unit} (hg : ∀ (b : Bool) (s₁ : Shared) (Q' : Unit → Shared → Prop), Q' () s₁ → wpAny (model P w) A (g b) Q' E s₁)
    {o : Obj} {es : Array (Int × Value)} {ep : Nat} {t : SetTable} (ho : s.heap.get? a = some o) (hex : o.ExactSet) (hd : o.data = .set es ep t)
    {es1 : Array (Int × Value)} {t2 : SetTable} (g1 : ∀ e ∈ es1.toList, TxE w e) (p1 : (es1.toList.map txOf).Perm ks) (nd1 : ks.Nodup)
    (hb1 : es1.size < scanBound) (hf2 : t2.fits es1.size = true) (hr : Ris t2.place.toList) (hl : w.params.followText "set-order" = true ∨ t2.led = true) {wasDummy : Bool} {R : Option Bool → Shared → Prop}
    (hR : ∀ h', Heap.SameBut a s.heap h' → TxS w h' a ks → R (some true) { s with heap := h' }) :
    wpAny (model P w) A (do
        storeSet a es1 t2
        if (!wasDummy && t2.tooFull) = true then do
            g (relayAll t2 es1 (SetTable.grown es1.size)).2.2
            storeSet a (relayAll t2 es1 (SetTable.grown es1.size)).1 (relayAll t2 es1 (SetTable.grown es1.size)).2.1
            pure (some true)
          else pure (some true)) R E s := by
  refine wpAny_bind (wpAny_storeSet_of ho hd ?_ (fits_of_scanBound hb1))
  have ho1 := store_at (es' := es1) (t' := t2) ho hd
  have sb1 := Heap.SameBut.update s.heap a (Obj.putSet es1 t2)
  by_cases full : (!wasDummy && t2.tooFull) = true
  · rw [if_pos full]
    have pm := relayAll_perm t2 es1 (SetTable.grown es1.size)
    have hf3 := relayAll_fits t2 es1 (SetTable.grown es1.size)
    have hr3 := relayAll_ris t2 es1 (SetTable.grown es1.size)
    have hl3 := relayAll_led t2 es1 (SetTable.grown es1.size)
    generalize relayAll t2 es1 (SetTable.grown es1.size) = Z at pm hf3 hr3 hl3 ⊢
    obtain ⟨es2, t3, gave⟩ := Z
    dsimp only at pm hf3 hr3 hl3 ⊢
    have hsz : es2.size = es1.size := by rw [← Array.length_toList, pm.length_eq, Array.length_toList]
    refine wpAny_bind (hg _ _ _ (wpAny_bind (wpAny_storeSet_of ho1 rfl ?_ (fits_of_scanBound (by rw [hsz]; exact hb1)))))
    have ho2 := store_at (es' := es2) (t' := t3) ho1 rfl
    exact wpAny_pure (hR _ (sb1.trans (Heap.SameBut.update _ a _)) ⟨_, es2, _, t3, ho2, hex, rfl, fun e he => g1 e (pm.mem_iff.mp he), (pm.map txOf).trans p1, nd1, by rw [hsz]; exact hb1, hf3, hr3, hl.imp id fun z => by rw [hl3]; exact z⟩)
  · rw [if_neg full]
    exact wpAny_pure (hR _ sb1 ⟨_, es1, _, t2, ho1, hex, rfl, g1, p1, nd1, hb1, hf2, hr, hl⟩)
/-- a text is added -/
theorem tx_add {k : Str} {tk : Tok} {Q : Bool → Shared → Prop} (R : TxS w s.heap a ks) (room : ks.length + 1 < scanBound)
    (hQ : ∀ h' b, Heap.SameBut a s.heap h' → TxS w h' a (if k ∈ ks then ks else k :: ks) → Q b { s with heap := h' }) :
    wpAny (model P w) A (setAddHashed a (.str k tk) ((PySem.strKind P w).hash k)) Q E s := by
  obtain ⟨o, es, ep, t, ho, hex, hd, g, pk, nd, hb, hf, hr, hl⟩ := R
  have hkey : (PySem.strKind P w).is k (.str k tk) = true := PySem.strKind_is P w k tk
  have hsc : (Value.str k tk).scannable = true := rfl
  have hel : ElemsOf (PySem.strKind P w) es.toList := tx_elems g
  unfold setAddHashed setAddHashedIn
  refine wpAny_holding (wpAny_bind (wpAny_setState_of ho hd hf ?_))
  dsimp only
  rw [byScan_of hsc hb hel]
  simp only [↓reduceIte]
  unfold setAddByScan
  refine wpAny_bind ?_
  refine wpAny_bind (wpAny_rule ?_)
  refine wpAny_bind (wpAny_setScan_of hkey ho hd hf hel ?_)
  cases hfi : List.findIdx? (fun e => (PySem.strKind P w).is k e.2) es.toList with
  | some j =>
    dsimp only
    obtain ⟨hj, pj, _⟩ := List.findIdx?_eq_some_iff_getElem.mp hfi
    have hm : k ∈ ks := pk.mem_iff.mp (List.mem_map.mpr ⟨es.toList[j], List.getElem_mem hj, (tx_is (P := P) (g _ (List.getElem_mem hj)) k).mp pj⟩)
    refine wpAny_pure (wpAny_pure ?_)
    exact hQ s.heap _ (Heap.SameBut.refl a s.heap) (by rw [if_pos hm]; exact ⟨o, es, ep, t, ho, hex, hd, g, pk, nd, hb, hf, hr, hl⟩)
  | none =>
    dsimp only
    have hnk : k ∉ ks := fun z => by
      obtain ⟨e, he, q⟩ := List.mem_map.mp (pk.mem_iff.mpr z)
      have c := List.findIdx?_eq_none_iff.mp hfi e he
      rw [(tx_is (P := P) (g e he) k).mpr q] at c
      cases c
    have hgw : ∀ (b : Bool) {s₁ : Shared} {Q' : Unit → Shared → Prop}, Q' () s₁ → wpAny (model P w) A (match b with | true => rule "set.scan.the-table-gave-way" | false => pure ()) Q' E s₁ :=
      fun b s₁ Q' q => by cases b <;> first | exact wpAny_pure q | exact wpAny_rule q
    have pm := layNew_perm t es ((PySem.strKind P w).hash k) (.str k tk)
    have hf1 := layNew_fits t es ((PySem.strKind P w).hash k) (.str k tk)
    have hr1 := layNew_ris t es ((PySem.strKind P w).hash k) (.str k tk) hr
    have hl1 := layNew_led t es ((PySem.strKind P w).hash k) (.str k tk)
    generalize layNew t es ((PySem.strKind P w).hash k) (.str k tk) = Z at pm hf1 hr1 hl1 ⊢
    obtain ⟨es1, t1, wasDummy, gave⟩ := Z
    dsimp only at pm hf1 hr1 hl1 ⊢
    rw [Array.toList_push] at pm
    have pc : es1.toList.Perm (((PySem.strKind P w).hash k, Value.str k tk) :: es.toList) := pm.trans (List.perm_append_singleton _ _)
    have pk1 : (es1.toList.map txOf).Perm (k :: ks) := (pc.map txOf).trans (List.Perm.cons k pk)
    have g1 : ∀ e ∈ es1.toList, TxE w e := fun e he => by
      rcases List.mem_cons.mp (pc.mem_iff.mp he) with z | z
      · rw [z]; exact ⟨k, tk, rfl, rfl⟩
      · exact g e z
    have nd1 : (k :: ks).Nodup := List.nodup_cons.mpr ⟨hnk, nd⟩
    have hsz : es1.size = ks.length + 1 := by
      have := pk1.length_eq
      rw [List.length_map, Array.length_toList, List.length_cons] at this
      exact this
    have hb1 : es1.size < scanBound := by rw [hsz]; exact room
    have hled : w.params.followText "set-order" = true ∨ t1.led = true := hl.imp id fun z => by rw [hl1]; exact z
    have fin : ∀ h' b, Heap.SameBut a s.heap h' → TxS w h' a (k :: ks) → Q b { s with heap := h' } := fun h' b sb r => hQ h' b sb (by rw [if_neg hnk]; exact r)
    refine wpAny_bind (hgw _ ?_)
    split
    · refine wpAny_bind ?_
      rw [hashByValue_scannable 8 hsc]
      refine wpAny_pure ?_
      refine tx_tail ?_ ho hex hd g1 pk1 nd1 hb1 ?_ ?_ ?_ ?_
      · intro b s₁ Q' q; cases b <;> first | exact wpAny_pure q | exact wpAny_rule q
      · first | (split <;> first | exact hf1 | exact SetTable.fits_plain_off hf1) | exact hf1
      · first | (split <;> exact hr1) | exact hr1
      · first | (split <;> exact hled) | exact hled
      · intro h' sb r; dsimp only; exact wpAny_pure (fin h' _ sb r)
    · refine wpAny_bind (wpAny_pure ?_)
      simp only [↓reduceIte]
      refine tx_tail ?_ ho hex hd g1 pk1 nd1 hb1 hf1 hr1 hled ?_
      · intro b s₁ Q' q; cases b <;> first | exact wpAny_pure q | exact wpAny_rule q
      · intro h' sb r; dsimp only; exact wpAny_pure (fin h' _ sb r)
end
end U
namespace U
open PySem PySem.Spec L2 PyProof.Rows
def addK (ks : List Str) (k : Str) : List Str := if k ∈ ks then ks else k :: ks
theorem addK_len (ks : List Str) (k : Str) : (addK ks k).length ≤ ks.length + 1 := by
  unfold addK
  split
  · omega
  · rw [List.length_cons]; omega
theorem fold_len : ∀ (ts ks : List Str), (ts.foldl addK ks).length ≤ ks.length + ts.length
  | [], ks => by simp
  | t :: ts, ks => by
    have := fold_len ts (addK ks t)
    have := addK_len ks t
    rw [List.foldl_cons, List.length_cons]
    omega
abbrev freshS (w : World) : Obj := { cls := .type "set", dict := none, data := .set #[] 0 (.fresh 0 0 (!w.params.followText "set-order")) }
theorem tx_new {w : World} {h : Heap} {a : Addr} (ho : h.get? a = some (freshS w)) : TxS w h a [] :=
  ⟨_, #[], 0, _, ho, ⟨rfl, rfl, rfl⟩, rfl, (fun e he => by simp at he), (by simp), .nil, (by decide), (by rfl), List.Pairwise.nil, by
    show _ ∨ (!w.params.followText "set-order") = true
    cases w.params.followText "set-order"
    · exact .inr rfl
    · exact .inl rfl⟩
section
variable {P : Program} {w : World} {A : Around} {E : Value → Shared → Prop} {s : Shared}
/-- the items taken in, one behind another -/
theorem tx_update {I : Addr} {fp wr : List Addr} {G : Array GenState → Array GenState → Prop} {n : Nat} {Pv : Nat → Value → Prop} {St : Nat → Shared → Prop} {R : Result → Shared → Prop}
    (W : WalksS P w A.in1 I fp wr G n Pv St) (S : Addr) (hSf : S ∉ fp) (ts : List Str) (hn : n = ts.length) (hb : ts.length + 1 < scanBound) (hval : ∀ i v, Pv i v → ∃ k t, ts[i]? = some k ∧ v = .str k t)
    (hR : ∀ s' s0, Moved (S :: wr) G s0 s' → TxS w s'.heap S (ts.foldl addK []) → s0 = s → R (.ok (.ret .none)) s') :
    ∀ (k i : Nat) (s1 : Shared), n - i = k → i ≤ n → St i s1 → TxS w s1.heap S ((ts.take i).foldl addK []) → (∀ s', Moved (S :: wr) G s1 s' → Moved (S :: wr) G s s') →
      codeAny (model P w) A (.builtin "set.update.loop" ⟨[.ref S, .ref I], []⟩) R s1 := by
  have hSw : S ∉ wr := fun h => hSf (W.sub _ h)
  have up : ∀ b ∈ wr, b ∈ S :: wr := fun b hb => List.mem_cons_of_mem _ hb
  intro k
  induction k with
  | zero =>
    intro i s1 hk' hi hst hS hm0
    have hin : i = n := by omega
    refine codeAny_builtin F.entry_set_update_loop ?_
    rw [Around.under_plainId F.plain_set_update_loop _]
    show wpAny _ A.in1 (pyNext (.ref I) >>= _) _ _ s1
    subst hin
    refine wpAny_bind (W.done s1 _ _ hst fun s' hm => wpAny_pure ?_)
    rw [show ts.take i = ts from List.take_of_length_le (by omega)] at hS
    exact hR s' s (hm0 s' (hm.mono up)) (hS.at fun o e => hm.heap S o hSw e) rfl
  | succ k ih =>
    intro i s1 hk' hi hst hS hm0
    have hlt : i < n := by omega
    refine codeAny_builtin F.entry_set_update_loop ?_
    rw [Around.under_plainId F.plain_set_update_loop _]
    show wpAny _ A.in1 (pyNext (.ref I) >>= _) _ _ s1
    refine wpAny_bind (W.item i s1 _ _ hlt hst fun v s' hP hst' hm => ?_)
    obtain ⟨z, t, hz, rfl⟩ := hval i v hP
    have hS' : TxS w s'.heap S ((ts.take i).foldl addK []) := hS.at fun o e => hm.heap S o hSw e
    show wpAny _ A.in1 (holding [Value.str z t] (setAdd S (.str z t)) >>= _) _ _ s'
    refine wpAny_bind (wpAny_holding ?_)
    unfold setAdd
    refine wpAny_holding (wpAny_bind ((PySem.strKind P w).pyHash (k := z) (PySem.strKind_is P w z t) ?_))
    have hlen := fold_len (ts.take i) []
    have hlen2 : (ts.take i).length ≤ i := List.length_take_le i ts
    rw [List.length_nil] at hlen
    refine tx_add (s := { s' with toks := s'.toks + 1 }) hS' (by omega) fun h' b hsb hS2 => ?_
    have e3 : (ts.take (i + 1)).foldl addK [] = addK ((ts.take i).foldl addK []) z := by
      rw [List.take_add_one, hz]
      simp [List.foldl_append]
    refine wpAny_pure ⟨plainId_quiet F.plain_set_update_loop _, ih (i + 1) _ (by omega) hlt (W.frame _ s' _ _ hst' (Nat.le_succ _) fun b hb o e => ?_) (by rw [e3]; exact hS2) fun s'' hm'' => ?_⟩
    · rw [hsb.2 b (fun h : b = S => hSf (by rw [← h]; exact hb))]; exact e
    · refine hm0 s'' (Moved.trans W.gtrans ((hm.mono up).then_heap (Nat.le_succ _) fun b o hb e => ?_) hm'')
      rw [hsb.2 b (fun h : b = S => hb (by rw [h]; exact List.mem_cons_self))]; exact e
set_option maxHeartbeats 8000000 in
/-- set(l), l a list of texts -/
theorem call_set_texts {l : Addr} {items : Array Value} {ts : List Str} {Q : Value → Shared → Prop} (hh : A.handled = none) (hl : s.heap.IsList l items) (hi : ∀ (i : Nat) (v : Value), items[i]? = some v → ∃ k t, ts[i]? = some k ∧ v = .str k t) (hn : items.size = ts.length) (hb : ts.length + 1 < scanBound)
    (h : ∀ (h' : Heap) (tk : Nat), TxS w h' s.heap.objs.size (ts.foldl addK []) → (∀ b o, s.heap.get? b = some o → h'.get? b = some o) → Q (.ref s.heap.objs.size) { s with heap := h', toks := tk }) :
    wpAny (model P w) A (call (.type "set") [.ref l]) Q E s := by
  obtain ⟨c, tl, hmro⟩ := F.called_set.mro
  have hmade := F.called_set.made
  have hsub := F.called_set.sub
  refine wpAny_call (codeAny_of_tree ?_)
  show wpAny _ _ (callAny (.type "set") _) _ _ _
  refine wpAny_pure ⟨Code.quiet_builtin _ (by decide +kernel), codeAny_builtin F.entry_type_call ?_⟩
  rw [Around.under_plain (weight_type_call_type "set" [.ref l] []) rfl]
  have h1 := F.called_set.notType
  have h2 := F.called_set.canCreate
  have hct := F.typeCall_set_1 (.ref l)
  repeat (any_goals (first | assumption | wp_step))
  refine codeAny_mono (code_set_led1 (.ref l) (E := E) (Q₁ := fun obj s₁ => obj = .ref s.heap.objs.size ∧ s₁ = { s with heap := s.heap.push (freshS w) }) ⟨rfl, rfl⟩) fun r s₁ hr => ?_
  cases r with
  | error e => exact hr
  | ok fl =>
    cases fl with
    | ret obj =>
      obtain ⟨rfl, rfl⟩ := hr
      have hS : (s.heap.push (freshS w)).get? s.heap.objs.size = some (freshS w) := Heap.get?_push_size _ rfl
      have hT : Shared.TypeIs { s with heap := s.heap.push (freshS w) } (.ref s.heap.objs.size) "set" := ⟨_, hS, rfl⟩
      have hli := F.called_set.init.lookup
      have hbi := F.called_set.init.bind (.ref s.heap.objs.size)
      repeat (any_goals (first | assumption | wp_step))
      refine codeAny_mono (codeAny_call_builtin (R := wants (fun r s₂ => r = .none ∧ ∃ h' tk, s₂ = { s with heap := h', toks := tk } ∧ TxS w h' s.heap.objs.size (ts.foldl addK []) ∧
          (∀ b o, s.heap.get? b = some o → h'.get? b = some o)) E) F.called_set.init.plain F.entry_set_init (check_set_init_1 hT ?_)) fun r₂ s₂ hr₂ => ?_
      · obtain ⟨ol, hol, hcl, nl, hdl⟩ := hl
        obtain ⟨ocls, odict, odata, oslots⟩ := ol
        simp only at hcl hdl
        subst hcl; subst hdl
        have hol' : (s.heap.push (freshS w)).get? l = some { cls := .type "list", dict := odict, data := .seq items nl, slots := oslots } := Heap.get?_push_of_some _ hol
        have hsls := F.sub_list_set
        have hslf := F.sub_list_frozenset
        have hne : (Value.type "list" == Value.type "dict") = false := by decide
        have hl1 : (s.heap.push (freshS w)).IsList l items := ⟨_, hol', rfl, nl, rfl⟩
        unfold Builtin.«set.__init__» noKeywords Builtin.Frozenset.updateFrom
        generalize hPI : pyIter = PI
        wp_walk
        subst hPI
        refine wpAny_pyIter_list hl1 ?_
        refine wpAny_bind (wpAny_runValue ?_)
        have hlS : l < s.heap.objs.size := Heap.lt_size hol
        have hh3 : A.in1.in1.in1.handled = none := by simp [hh]
        have hneI : l ≠ (s.heap.push (freshS w)).objs.size := by
          rw [Heap.size_push]; exact Nat.ne_of_lt (Nat.lt_succ_of_lt hlS)
        have hSf : s.heap.objs.size ∉ [(s.heap.push (freshS w)).objs.size, l] := by
          rw [Heap.size_push]; simp only [List.mem_cons, List.mem_singleton, List.not_mem_nil, or_false, not_or]
          exact ⟨Nat.ne_of_lt (Nat.lt_succ_self _), Nat.ne_of_gt hlS⟩
        refine tx_update ((Walks.list hh3 _ l hneI items).toS) s.heap.objs.size hSf ts hn hb hi ?hR (items.size - 0) 0 _ (by omega) (Nat.zero_le _) ⟨⟨_, Heap.get?_push_size _ rfl, rfl, rfl⟩, (hl1.push _)⟩ ?hS0 (fun s' m => m)
        case hS0 =>
          have hget : ((s.heap.push (freshS w)).push { cls := .type "list_iterator", data := .fields #[.ref l, .int 0 0] }).get? s.heap.objs.size = some (freshS w) := Heap.get?_push_of_some _ hS
          exact tx_new hget
        case hR =>
          intro s' s0 hm hS' e0
          subst e0
          obtain ⟨h', g2, d', tk', os'⟩ := s'
          have eg : g2 = s.gens := hm.gens
          have ed : d' = s.drawn := hm.drawn
          have eo : os' = s.os := hm.os
          subst eg; subst ed; subst eo
          show wpAny _ _ _ _ _ _
          refine wpAny_pure ?_
          show wpAny _ _ (ret Value.none) _ _ _
          refine wpAny_pure ⟨rfl, h', tk', rfl, hS', fun b o e => ?_⟩
          have hb0 : b < s.heap.objs.size := Heap.lt_size e
          have hb1 : b ≠ s.heap.objs.size := Nat.ne_of_lt hb0
          have hb2 : b ≠ (s.heap.push (freshS w)).objs.size := by
            rw [Heap.size_push]; exact Nat.ne_of_lt (Nat.lt_succ_of_lt hb0)
          exact hm.heap b o (by simp only [List.mem_cons, List.mem_singleton, List.not_mem_nil, or_false, not_or]; exact ⟨hb1, hb2⟩) (Heap.get?_push_of_some _ (Heap.get?_push_of_some _ e))
      · cases r₂ with
        | error e => exact hr₂
        | ok fl₂ =>
          cases fl₂ with
          | ret r =>
            obtain ⟨rfl, h', tk, rfl, hS', hk'⟩ := hr₂
            repeat (any_goals (first | assumption | wp_step))
            exact h _ _ hS' hk'
          | _ => exact hr₂.elim
    | _ => exact hr.elim
end
end U
namespace U
open PySem PySem.Spec L2 PyProof.Rows
section
variable {P : Program} {w : World} {A : Around} {E : Value → Shared → Prop} {s : Shared} {a : Addr} {ks : List Str}
theorem strs_txt : ∀ (l : List (Int × Value)), (∀ e ∈ l, TxE w e) → StrsAre (l.map (·.2)) (l.map txOf)
  | [], _ => .nil
  | e :: l, h => by
    obtain ⟨k, tk, h1, _⟩ := h e (List.mem_cons_self ..)
    obtain ⟨e1, e2⟩ := e
    subst h1
    exact .cons k tk (strs_txt l fun x m => h x (List.mem_cons_of_mem _ m))
def txV (v : Value) : Str := match v with
  | .str k _ => k
  | _ => ""
theorem strs_of_all : ∀ (l : List Value), (∀ v ∈ l, ∃ k tk, v = .str k tk) → StrsAre l (l.map txV)
  | [], _ => .nil
  | v :: l, h => by
    obtain ⟨k, tk, h1⟩ := h v (List.mem_cons_self ..)
    subst h1
    exact .cons k tk (strs_of_all l fun x m => h x (List.mem_cons_of_mem _ m))
theorem sorted_texts {Q : Value → Shared → Prop} (R : TxS w s.heap a ks) (hh : A.handled = none) (h64 : ks.length < 64)
    (hQ : ∀ s' p (out : Array Value) (c : Nat) (ss : List Str), (∀ b o, s.heap.get? b = some o → s'.heap.get? b = some o) → s'.gens = s.gens → s'.os = s.os → s.heap.objs.size ≤ p →
      s'.heap.get? p = some (seqObj "list" out c) → StrsAre out.toList ss → ss.Perm ks → sortedS ss = true → Q (.ref p) s') :
    wpAny (model P w) A (call (.builtin "sorted") [.ref a]) Q E s := by
  obtain ⟨o, es, ep, t, ho, hex, hd, g, pk, nd, hb, hf, hr, hl⟩ := R
  refine Calls.call_function_entry kind_sorted plain_sorted entry_sorted (args_sorted1 _) ?_
  unfold Builtin.«sorted»
  refine wpAny_bind (m := checkCount "sorted" 1 1 _) (wpAny_pure ?_)
  refine wpAny_bind (collect_set (A := A.in1) hh ⟨o, ho, hex.1, hd⟩ hf hb hr hl fun s1 vs k1 hz g1 o1 pm => ?_)
  have hall : ∀ v ∈ vs, ∃ k tk, v = Value.str k tk := fun v hv => by
    obtain ⟨e, he, q⟩ := List.mem_map.mp (pm.mem_iff.mp hv)
    obtain ⟨k, tk, h1, _⟩ := g e he
    exact ⟨k, tk, by rw [← q]; exact h1⟩
  have hS : StrsAre vs (vs.map txV) := strs_of_all vs hall
  have pks : (vs.map txV).Perm ks := by
    have q := pm.map txV
    rw [List.map_map] at q
    exact q.trans pk
  have hvl : vs.length = ks.length := by
    have := pks.length_eq
    rwa [List.length_map] at this
  refine wpAny_bind (wpAny_newList ?_ (by rw [hvl, sizeLine_eq]; omega))
  have hoL : (s1.heap.push (seqObj "list" vs.toArray 0)).get? s1.heap.objs.size = some (seqObj "list" vs.toArray 0) := Heap.get?_push_size _ rfl
  refine wpAny_bind (wpAny_holding (wpAny_call_entry slot_list_sort ⟨_, hoL, rfl⟩ entry_list_sort
    (list_sort_treeK strKind_oneLt (s := { s1 with heap := s1.heap.push (seqObj "list" vs.toArray 0) }) hoL hS.keysOf (fun v₁ v₂ rest e => keyKind_strs (by rw [← e]; exact hS)) (by rw [hvl]; exact h64) fun st' hp hs => ⟨_, rfl, ?_⟩) (args_list_sort _)))
  obtain ⟨ss, q1, q2, q3⟩ := sorted_out_str hS hp hs
  obtain ⟨c, hc⟩ := sortedHeap_at (vs := vs) (out := (arrOf st').map (·.2)) hoL
  refine wpAny_pure ⟨_, rfl, hQ _ s1.heap.objs.size ((arrOf st').map (·.2)) c ss (fun b u e => ?_) g1 o1 hz hc q1 (q2.trans pks) q3⟩
  have q := k1 b u e
  have hlt := Heap.lt_size q
  show (sortedHeap (s1.heap.push (seqObj "list" vs.toArray 0)) s1.heap.objs.size vs ((arrOf st').map (·.2))).get? b = some u
  rw [sortedHeap_old (Nat.ne_of_lt hlt) (by rw [size_push']; exact Nat.lt_succ_of_lt hlt)]
  exact Heap.get?_push_of_some _ q
end
end U
namespace U
open PySem PySem.Spec L2 PyProof.Rows
theorem dedup_mem {x : Str} : ∀ {l : List Str}, x ∈ dedupT l ↔ x ∈ l
  | [] => Iff.rfl
  | y :: l => by
    unfold dedupT
    split
    · rename_i m
      rw [dedup_mem, List.mem_cons]
      exact ⟨.inr, fun h => h.elim (fun e => e ▸ m) id⟩
    · rw [List.mem_cons, List.mem_cons, dedup_mem]
theorem dedup_nodup : ∀ l : List Str, (dedupT l).Nodup
  | [] => List.nodup_nil
  | y :: l => by
    unfold dedupT
    split
    · exact dedup_nodup l
    · rename_i m
      exact List.nodup_cons.mpr ⟨fun h => m (dedup_mem.mp h), dedup_nodup l⟩
theorem fold_mem {x : Str} : ∀ {ts ks : List Str}, x ∈ ts.foldl addK ks ↔ x ∈ ts ∨ x ∈ ks
  | [], ks => by simp
  | t :: ts, ks => by
    rw [List.foldl_cons, fold_mem, List.mem_cons]
    have : x ∈ addK ks t ↔ x = t ∨ x ∈ ks := by
      unfold addK
      split
      · rename_i m
        exact ⟨.inr, fun h => h.elim (fun e => e ▸ m) id⟩
      · exact List.mem_cons
    rw [this]
    constructor
    · rintro (h | h | h)
      · exact .inl (.inr h)
      · exact .inl (.inl h)
      · exact .inr h
    · rintro ((h | h) | h)
      · exact .inr (.inl h)
      · exact .inl h
      · exact .inr (.inr h)
theorem sorted_is {ts ss ks : List Str} (p : ss.Perm ks) (nd : ks.Nodup) (m : ∀ x, x ∈ ks ↔ x ∈ ts) (h : sortedS ss = true) : ss = sortT (dedupT ts) :=
  List.Perm.eq_of_pairwise (fun a b _ _ h1 h2 => str_eq (List.le_antisymm h1 h2)) (sortedS_pair h) (sortT_sorted _) (p.trans (((List.perm_ext_iff_of_nodup nd (dedup_nodup ts)).mpr fun x => (m x).trans dedup_mem.symm).trans (sortT_perm _).symm))
theorem sort_len {ts ss ks : List Str} (nd : ks.Nodup) (m : ∀ x, x ∈ ks ↔ x ∈ ts) : ks.length = (dedupT ts).length := ((List.perm_ext_iff_of_nodup nd (dedup_nodup ts)).mpr fun x => (m x).trans dedup_mem.symm).length_eq
theorem strs_at : ∀ {ts : List Str} {its : List Value}, Vals (ts.map V.str) its → ∀ {i : Nat} {v : Value}, its[i]? = some v → ∃ k t, ts[i]? = some k ∧ v = .str k t
  | [], [], _, i, v, h => nomatch h
  | [], _ :: _, r, _, _, _ => nomatch r
  | _ :: _, [], r, _, _, _ => nomatch r
  | t :: ts, x :: its, r, i, v, h => by
    cases r with
    | cons r1 r2 =>
      cases i with
      | zero => obtain ⟨tk, e⟩ := r1; cases h; exact ⟨t, tk, rfl, e⟩
      | succ i => exact strs_at (ts := ts) (its := its) r2 (i := i) h
/-- sorted(set(x)) -/
def tSS (te : TE) : TE := fun σ H Q => te σ H fun v H1 => ∃ (a : Addr) (ts : List Str), v = .ref a ∧ Rd H1 a (.lst (ts.map V.str)) ∧ ts.length + 1 < scanBound ∧ (dedupT ts).length < 64 ∧ ∀ p, H1 p = none → Q (.ref p) (upd H1 p (.lst ((sortT (dedupT ts)).map V.str)))
theorem pe_ss {X : Cx} {a : Expr} {ta : TE} {p p2 q pos : Pos} (hc : X.calm = true) (hg : Gl X "sorted") (hm : X.mg "sorted" = none) (hg2 : Gl X "set") (hm2 : X.mg "set" = none) (ha : PE X a ta) (na : starEach [a] X.env = (false, eval a X.env) :: starEach [] X.env) :
    PE X (.Call (.Name "sorted" p) [.Call (.Name "set" p2) [a] [] q] [] pos) (tSS ta) := by
  refine ⟨fun pins s σ H Q I h => ?_⟩
  refine Call_ (ld_blt I hg hm boot_sorted ?_)
  refine PyProof.Rows.callWith_builtin1 (PyProof.Rows.args_cons ?_ rfl) rfl rfl
  refine Call_ (ld_blt I hg2 hm2 PyProof.Rows.boot_set ?_)
  refine PyProof.Rows.callWith_type1 (PyProof.Rows.args_cons (thn (ha.run pins s σ H _ I h) fun v s1 ⟨x, H1, I1, r1, q1⟩ => PyProof.Rows.args_nil ?_) na) na rfl
  obtain ⟨l, ts, rfl, hq, hb, h64, q1⟩ := q1
  cases r1
  obtain ⟨z, its, n, rv, hlen, e0⟩ := rd_lst I1 hq
  have hS := strsAre_of rv
  have at' : ∀ (i : Nat) (v : Value), its.toArray[i]? = some v → ∃ k t, ts[i]? = some k ∧ v = .str k t := fun i v hv => by
    have hv' : its[i]? = some v := by rw [← hv]; simp
    exact strs_at rv hv'
  have hn : its.toArray.size = ts.length := by rw [List.size_toArray, ← hlen, List.length_map]
  refine call_set_texts (s := s1) (I.ok.hd hc) ⟨_, e0, rfl, n, rfl⟩ at' hn hb fun h' tk R hk => ?_
  refine PyProof.Rows.args_nil ?_
  have I2 : Inv X pins σ H1 { s1 with heap := h', toks := tk } := I1.kept hk
  have hmem : ∀ x, x ∈ ts.foldl addK [] ↔ x ∈ ts := fun x => by rw [fold_mem]; simp
  have ndk : (ts.foldl addK []).Nodup := by obtain ⟨_, _, _, _, _, _, _, _, _, nd, _⟩ := R; exact nd
  have hl64 : (ts.foldl addK []).length < 64 := by rw [sort_len (ss := []) ndk hmem]; exact h64
  refine sorted_texts (s := { s1 with heap := h', toks := tk }) R (I.ok.hd hc) hl64 fun s' p' out c ss k g o hp hg' hi pm hs => ?_
  have ess := sorted_is pm ndk hmem hs
  subst ess
  have hlen2 : ((sortT (dedupT ts)).map V.str).length ≤ sizeLine := by
    rw [List.length_map, (sortT_perm _).length_eq, sizeLine_eq]; omega
  have hnp : H1 p' = none := I2.hok.fresh hp
  have J : Inv X pins σ (upd H1 p' (.lst ((sortT (dedupT ts)).map V.str))) { ({ s1 with heap := h', toks := tk } : Shared) with heap := s'.heap, gens := s'.gens, drawn := s'.drawn, toks := s'.toks } :=
    I2.call (ch := []) (Un.laid k hp hnp) (I2.hok.laid k hp ⟨hlen2, out.toList, c, vals_of_strs hi, hg'⟩) (by rw [g]; exact I2.bare) (fun _ z => nomatch z)
  have e : s' = { ({ s1 with heap := h', toks := tk } : Shared) with heap := s'.heap, gens := s'.gens, drawn := s'.drawn, toks := s'.toks } := by
    cases s'
    cases s1
    cases o
    rfl
  rw [e]
  exact ⟨.ref p', _, J, rfl, q1 p' hnp⟩
end U
namespace U
open PySem PySem.Spec L2 PyProof.Rows
/-- list(o.values()) -/
def tLV (td : TE) : TE := fun σ H Q => td σ H fun x H1 => ∃ (a : Addr) (kvs : List (Key × V)), x = V.ref a ∧ Rd H1 a (.dK kvs) ∧ ∀ p, H1 p = none → Q (.ref p) (upd H1 p (.lst (kvs.map (·.2))))
section
variable {X : Cx} {o : Expr} {p pos apos mpos : Pos} {td : TE}
theorem pe_listVals (hc : X.calm = true) (hg : Gl X "list") (hm : X.mg "list" = none) (hd : PE X o td) (hbase : attributeBase o "values" X.env (eval o X.env) = eval o X.env) (hline : (apos.endLine == mpos.line) = true) :
    PE X (.Call (.Name "list" p) [.Call (.Attribute o "values" apos) [] [] mpos] [] pos) (tLV td) := by
  refine ⟨fun pins s σ H Q I h => ?_⟩
  refine Call_ (ld_blt I hg hm PyProof.Rows.boot_list ?_)
  refine PyProof.Rows.callWith_type1 (PyProof.Rows.args_cons (wpAny_Call_method0_late hbase hline (thn (hd.run pins s σ H _ I h) fun v s1 ⟨x, H1, I1, r1, q⟩ => ?_)) rfl) rfl rfl
  obtain ⟨a, kvs, ex, ha, q⟩ := q
  subst ex
  obtain rfl : v = Value.ref a := r1
  obtain ⟨z, hsys, vs, rel, dof⟩ := dk_rd I1.hok ha
  obtain ⟨ep, dat⟩ := dof.dictAt
  have dat' := dat
  obtain ⟨ob, es, ho, ex, hdat, hko, hpr, hnd⟩ := dat'
  refine ⟨"dict", "dict.values", F.plainAttrs_dict, F.slot_dict_values, F.type_dict_values, ⟨ob, ho, ex.1⟩, fun b e => ?_, Calls.callWith_builtin rfl (PySem.evalArgs_none ?_)⟩
  · cases e
    exact ⟨ob, ho, ex.2.1⟩
  refine call_meetsIn F.slot_dict_values ⟨ob, ho, ex.1⟩ F.entry_dict_values (F.args_dict_values_1 _) (meets_dict_values (mixKind X.prog X.w) a hsys) ⟨⟨vs, dof⟩, ?_⟩
  refine PyProof.Rows.args_nil ?_
  have k1 : ∀ b u, s1.heap.get? b = some u → (s1.heap.push { cls := .type "dict_values", data := .fields #[.ref a] }).get? b = some u := fun b u e => Heap.get?_push_of_some _ e
  have dat1 : (s1.heap.push { cls := .type "dict_values", data := .fields #[.ref a] }).DictAt (mixKind X.prog X.w) a vs ep := dat.keep k1
  have hl : kvs.length = vs.length := KV.length rel
  refine PySem.W.kdl_call (PySem.W.kdl_values (knd := mixKind X.prog X.w) (kvs := vs) (ep := ep)) (I.ok.hd hc) ⟨⟨_, Heap.get?_push_size _ rfl, rfl, rfl⟩, dat1⟩ (by rw [← hl]; exact z) fun h' tk acc' c' hk hS hacc => ?_
  have rv : Vals (kvs.map (·.2)) acc'.toList := by
    have el : acc'.toList.length = acc'.size := by simp
    refine vals_of_at (by rw [List.length_map, el, hacc.1, hl]) fun j x w h1 h2 => ?_
    obtain ⟨k, hky⟩ := hacc.2 j w (by rw [← Array.getElem?_toList]; exact h2)
    obtain ⟨y, g1, g2⟩ := KV.at' rel hky
    rw [List.getElem?_map, g1] at h1
    cases h1
    exact g2
  have hle : s1.heap.objs.size ≤ (s1.heap.push { cls := .type "dict_values", data := .fields #[.ref a] }).objs.size := by rw [Heap.size_push]; exact Nat.le_succ _
  exact ⟨.ref _, _, I1.laid (t' := tk) (fun b u e => hk b u (k1 b u e)) hle (show ObjOk X.prog X.w _ _ _ (.lst (kvs.map (·.2))) from ⟨by rw [List.length_map]; exact z, acc'.toList, c', rv, by rw [Array.toArray_toList]; exact hS⟩), rfl, q _ (I1.hok.fresh hle)⟩
end
section
variable {W : Wd} {X : Cx} {ev : Ev} {k : Nat} {wx : WX}
theorem xl_srts {a : E} {ea : Expr} {p p2 q pos : Pos} (c : Ct W X ev k wx) (hg : Gl X "sorted") (hg2 : Gl X "set") (hn : notStar ea = true) (ha : PE X ea (rd W X wx (rV W X) (evE ev a))) :
    PE X (.Call (.Name "sorted" p) [.Call (.Name "set" p2) [ea] [] q] [] pos) (rd W X wx (rL W X) (evL ev (.srts a))) :=
  PE.mono (pe_ss c.calm hg (c.kf.blt _ (by decide)) hg2 (c.kf.blt _ (by decide)) ha (star_cons hn)) fun σ H Q ⟨B, S, fs, s, h⟩ => Pst.go s (show Pst W X wx (rL W X) σ B S H Q ((evE ev a fs).bind fun x fs => R.opt fs ((asL fs.hp x).bind fun xs => (txts xs).bind fun ts => if ts.length < 4000 ∧ (dedupT ts).length < 64 then some ((sortT (dedupT ts)).map .str) else none)) from h) fun v H1 S1 fs1 y s1 e1 r1 h1 => by
    obtain ⟨z, ez, h2⟩ := h1.opt
    obtain ⟨xs, x1, ez⟩ := Option.bind_eq_some_iff.mp ez
    obtain ⟨ts, x2, ez⟩ := Option.bind_eq_some_iff.mp ez
    split at ez
    · rename_i hb
      cases ez
      obtain ⟨q, us, rfl, hq, r⟩ := asL_rd s1.hi r1 x1
      have eu := txts_of r x2
      subst eu
      exact ⟨q, ts, rfl, hq, Nat.lt_of_lt_of_le (Nat.succ_lt_succ hb.1) (by decide), hb.2, newL h2 s1 (reps_txt _)⟩
    · cases ez
theorem xl_vals {a : E} {o : Expr} {p apos q pos : Pos} (c : Ct W X ev k wx) (hg : Gl X "list") (hn : notCall0 o = true) (hl : (apos.endLine == q.line) = true) (ha : PE X o (rd W X wx (rV W X) (evE ev a))) :
    PE X (.Call (.Name "list" p) [.Call (.Attribute o "values" apos) [] [] q] [] pos) (rd W X wx (rL W X) (evL ev (.vals a))) :=
  PE.mono (pe_listVals c.calm hg (c.kf.blt _ (by decide)) ha (base_of hn) hl) fun σ H Q ⟨B, S, fs, s, h⟩ => Pst.go s (show Pst W X wx (rL W X) σ B S H Q ((evE ev a fs).bind fun x fs => R.opt fs ((asD fs.hp x).map fun kvs => kvs.map (·.2))) from h) fun v H1 S1 fs1 y s1 e1 r1 h1 => by
    obtain ⟨z, ez, h2⟩ := h1.opt
    obtain ⟨kvs, x1, ez⟩ := Option.map_eq_some_iff.mp ez
    subst ez
    obtain ⟨q, us, rfl, hq, n, r⟩ := asD_rep s1.hi r1 x1
    exact ⟨q, us, rfl, .inl hq, newL h2 s1 r⟩
theorem late (W : Wd) (ev : Ev) : Late W ev := ⟨fun c h1 h2 h3 h4 => xl_srts c h1 h2 h3 h4, fun c h1 h2 h3 h4 => xl_vals c h1 h2 h3 h4⟩
end
end U
namespace U
open PySem PySem.Spec L2 PyProof.Rows
section
variable {W : Wd} {K : PySem.W.Frag} {w : World} {mg : Str → Option Value} {h : Heap}
theorem rscB_ok {u : Value} {x : PV} (e : rscB W K u x = true) : ∃ v, RelV v u ∧ Rsc W K v x := by
  unfold rscB at e
  split at e
  · exact ⟨.non, rfl, .non⟩
  · rename_i b c
    have : b = c := by simpa using e
    subst this
    exact ⟨.bl b, rfl, .bl b⟩
  · cases of_decide_eq_true e
    exact ⟨.int _, ⟨_, rfl⟩, .int _⟩
  · cases of_decide_eq_true e
    exact ⟨.str _, ⟨_, rfl⟩, .str _⟩
  · cases of_decide_eq_true e
    exact ⟨.ref _, rfl, .cls _⟩
  · cases of_decide_eq_true e
    exact ⟨.ref _, rfl, .fn _⟩
  · cases e
theorem rscsB_ok : ∀ {us : List Value} {xs : List PV}, rscsB W K us xs = true → ∃ vs, Vals vs us ∧ ∀ S H, Reps W K w S H vs xs
  | [], [], _ => ⟨[], .nil, fun _ _ => .nil⟩
  | [], _ :: _, e => by cases e
  | _ :: _, [], e => by cases e
  | u :: us, x :: xs, e => by
    obtain ⟨e1, e2⟩ := He.ba (show (rscB W K u x && rscsB W K us xs) = true from e)
    obtain ⟨v, r, q⟩ := rscB_ok e1
    obtain ⟨vs, rs, qs⟩ := rscsB_ok e2
    exact ⟨v :: vs, .cons r rs, fun S H => .cons (.sc q) (qs S H)⟩
theorem entries_none {z : Str} : ∀ {l : List DictEntry} {ks : List Str} {P : Params}, l.map He.keyOf = He.keysIn P ks → z ∉ ks → l.find? (·.key.isStr z) = none ∧ l.any (·.refKey) = false
  | [], [], _, _, _ => ⟨rfl, rfl⟩
  | [], _ :: _, _, e, _ => by cases e
  | e :: r, [], _, q, _ => by cases q
  | e :: r, k :: ks, P, q, n => by
    have q1 : He.keyOf e :: r.map He.keyOf = some (k, PyData.keyHash P k) :: He.keysIn P ks := q
    injection q1 with q2 q3
    obtain ⟨i1, i2⟩ := entries_none (z := z) q3 fun m => n (List.mem_cons_of_mem _ m)
    unfold He.keyOf at q2
    split at q2
    · rename_i x t eq
      have e1 : x = k := (Prod.mk.inj (Option.some.inj q2)).1
      subst e1
      have hne : ¬ x = z := fun y => n (y ▸ List.mem_cons_self)
      have hb : e.key.isStr z = false := by
        rw [eq]
        exact beq_eq_false_iff_ne.mpr hne
      have hr : e.refKey = false := by
        unfold DictEntry.refKey
        rw [eq]
      refine ⟨by rw [List.find?_cons, hb]; exact i1, by rw [List.any_cons, hr, i2]; rfl⟩
    · cases q2
theorem nsIn_none {a : Addr} {z : Str} {ks : List Str} {P : Params} (e : He.dicW K a = some (He.keysIn P ks)) (n : z ∉ ks) : PySem.W.nsIn K a z = some none := by
  unfold He.dicW at e
  unfold PySem.W.nsIn
  split at e
  · rename_i c es m sl eq
    rw [eq]
    split at e
    · obtain ⟨i1, i2⟩ := entries_none (z := z) (Option.some.inj e) n
      show (match es.toList.find? (·.key.isStr z) with
        | some e => some (some e.val)
        | none => if es.toList.any (·.refKey) then none else some none) = some none
      rw [i1]
      show (if es.toList.any (·.refKey) = true then none else some none) = some none
      rw [i2]
      rfl
    · cases e
  · cases e
theorem dGet_mem : ∀ {kvs : List (Key × PV)} {k : Key} {x : PV}, dGet kvs k = some x → (k, x) ∈ kvs
  | [], _, _, e => by cases e
  | (j, v) :: r, k, x, e => by
    unfold dGet at e
    split at e
    · rename_i q
      subst q
      cases e
      exact List.mem_cons_self
    · exact List.mem_cons_of_mem _ (dGet_mem e)
theorem dGet_none : ∀ {kvs : List (Key × PV)} {k : Key}, dGet kvs k = none → k ∉ kvs.map (·.1)
  | [], _, _ => by simp
  | (j, v) :: r, k, e => by
    unfold dGet at e
    split at e
    · cases e
    · rename_i q
      intro m
      rcases List.mem_cons.mp m with m | m
      · exact q m.symm
      · exact dGet_none e m
theorem zipD_keys : ∀ {ks : List Key} {xs : List PV}, ks.length = xs.length → (zipD ks xs).map (·.1) = ks
  | [], [], _ => rfl
  | [], _ :: _, e => by cases e
  | _ :: _, [], e => by cases e
  | k :: ks, x :: xs, e => congrArg (k :: ·) (zipD_keys (ks := ks) (xs := xs) (Nat.succ.inj e))
theorem txtsK_mem {z : Str} : ∀ {ks : List Key}, z ∈ txtsK ks → (Sum.inr z : Key) ∈ ks
  | [], m => by cases m
  | .inr y :: r, m => by
    rcases List.mem_cons.mp (show z ∈ y :: txtsK r from m) with e | m
    · rw [e]; exact List.mem_cons_self
    · exact List.mem_cons_of_mem _ (txtsK_mem m)
  | .inl _ :: r, m => List.mem_cons_of_mem _ (txtsK_mem (show z ∈ txtsK r from m))
theorem kdic_of {a : Addr} {ks : List Key} {xs : List PV} {es : Array DictEntry} {n : Nat} (l : ks.length = xs.length) (b : kvB W K a (zipD ks xs) = true) (e : He.dicW K a = some (He.keysIn w.params (txtsK ks))) : KDic W K w a (zipD ks xs) where
  d := He.dicW_ok e
  g := fun z => by
    cases q : dGet (zipD ks xs) (.inr z) with
    | some pv =>
      have b1 := List.all_eq_true.mp b _ (dGet_mem q)
      have b2 : (match PySem.W.nsIn K a z with
        | some (some u) => rscB W K u pv
        | _ => false) = true := b1
      split at b2
      · rename_i u eu
        obtain ⟨v, r, s⟩ := rscB_ok b2
        exact ⟨u, v, eu, r, s⟩
      · cases b2
    | none =>
      have n1 := dGet_none q
      rw [zipD_keys l] at n1
      exact nsIn_none e fun m => n1 (txtsK_mem m)
  s := fun q hq => by
    have b1 := List.all_eq_true.mp b q hq
    cases hk : q.1 with
    | inr z => exact ⟨z, rfl⟩
    | inl i =>
      rw [hk] at b1
      cases b1
theorem nb {b : Bool} (h : (!b) = true) : b = false := by cases b <;> first | rfl | cases h
theorem orb {a b : Bool} (h : (a || b) = true) : a = true ∨ b = true := by cases a <;> first | exact .inr h | exact .inl rfl
/-- what the hook tells -/
theorem kf_of {cs fs gs : List Nat} {ms : List (Nat × Nat)} (X : K.In h) (G : h.Ns mainGlobals mg) (b : kfB W K cs ms fs gs = true)
    (tabs : ∀ g ks xs, W.G.gcs g = some (.kdc ks xs) → He.dicW K (He.ga K (W.gn g)) = some (He.keysIn w.params (txtsK ks)))
    (hcs : ∀ c cl, W.G.cls c = some cl → c ∈ cs) (hms : ∀ c m f, W.G.meth c m = some f → (c, m) ∈ ms ∧ (W.G.cls c).isSome = true) (hfs : ∀ f fd, W.G.fns f = some fd → f ∈ fs) (hgs : ∀ g x, W.G.gcs g = some x → g ∈ gs) : Kf W K w mg := by
  obtain ⟨b1, b⟩ := He.ba b
  obtain ⟨b2, b⟩ := He.ba b
  obtain ⟨b3, b⟩ := He.ba b
  obtain ⟨b4, b5⟩ := He.ba b
  have C : ∀ c cl, W.G.cls c = some cl → clB W K cs c cl = true := fun c cl e => by
    have q := List.all_eq_true.mp b1 c (hcs c cl e)
    rw [e] at q
    exact q
  have P : ∀ c cl, W.G.cls c = some cl → cl.exc = false → plB W K cs c cl = true := fun c cl e ex => by
    have q := (He.ba (He.ba (He.ba (He.ba (C c cl e)).2).2).2).2
    rw [ex] at q
    exact q
  have Ex : ∀ c cl, W.G.cls c = some cl → cl.exc = true → exB W K cs c cl = true := fun c cl e ex => by
    have q := (He.ba (He.ba (He.ba (He.ba (C c cl e)).2).2).2).2
    rw [ex] at q
    exact q
  have M : ∀ c m f, W.G.meth c m = some f → meB W K c m f = true := fun c m f e => by
    have q := List.all_eq_true.mp b2 (c, m) (hms c m f e).1
    have q : (match W.G.meth c m with | some f => meB W K c m f | none => true) = true := q
    rw [e] at q
    exact q
  refine { gcl := ?_, kcl := ?_, cls := ?_, mkI := ?_, mkN := ?_, noat := ?_, inj := ?_, meth := ?_, kwm := ?_, gfn := ?_, kfn := ?_, gcs := ?_, blt := ?_, isc := ?_, isb := ?_, ist := ?_, isx := ?_, exc := ?_, exm := ?_ }
  · exact fun c cl e => PySem.W.mg_of X G (He.eqO_ok (He.ba (C c cl e)).1)
  · exact fun c cl e => (He.ba (He.ba (C c cl e)).2).1
  · exact fun c cl e ex => He.cls_ok (He.ba (P c cl e ex)).1
  · intro c cl f e ex hi
    have q := (He.ba (He.ba (P c cl e ex)).2).1
    unfold iniB at q
    rw [hi] at q
    obtain ⟨q1, q2⟩ := He.ba q
    obtain ⟨q2, q3⟩ := He.ba q2
    exact ⟨q1, He.eqO_ok q2, q3⟩
  · intro c cl e ex hi hf
    have q := (He.ba (He.ba (P c cl e ex)).2).1
    unfold iniB at q
    rw [hi] at q
    have q : (!cl.froz || (cl.flds.isEmpty && (PySem.W.makesIn K (ca W K c) && He.eqO (PySem.W.findIn K (.ref (ca W K c)) "__init__") (some (some (.builtin "object.__init__")))))) = true := q
    rw [hf] at q
    obtain ⟨q1, q2⟩ := He.ba q
    obtain ⟨q2, q3⟩ := He.ba q2
    exact ⟨List.isEmpty_iff.mp q1, q2, He.eqO_ok q3⟩
  · intro c cl k e ex hk
    exact He.eqO_ok (List.all_eq_true.mp (He.ba (He.ba (He.ba (P c cl e ex)).2).2).1 k hk)
  · intro c cl k j e hk hj en
    have q := List.all_eq_true.mp (List.all_eq_true.mp (He.ba (He.ba (He.ba (C c cl e)).2).2).1 k hk) j hj
    rcases orb q with q | q
    · exact absurd en (of_decide_eq_false (nb q))
    · exact of_decide_eq_true q
  · intro c cl m f e em
    have q := M c m f em
    unfold meB at q
    rw [e] at q
    obtain ⟨q1, q⟩ := He.ba q
    obtain ⟨q2, q⟩ := He.ba q
    obtain ⟨q3, q⟩ := He.ba q
    obtain ⟨q4, q⟩ := He.ba q
    obtain ⟨q5, q6⟩ := He.ba q
    exact ⟨nb q1, ⟨He.eqO_ok q2, q3, q4⟩, fun k hk => of_decide_eq_false (nb (List.all_eq_true.mp q5 k hk))⟩
  · intro c m f em p hp
    have q := M c m f em
    obtain ⟨cl, e⟩ := Option.isSome_iff_exists.mp (hms c m f em).2
    unfold meB at q
    rw [e] at q
    obtain ⟨q1, q⟩ := He.ba q
    obtain ⟨q2, q⟩ := He.ba q
    obtain ⟨q3, q⟩ := He.ba q
    obtain ⟨q4, q⟩ := He.ba q
    obtain ⟨q5, q6⟩ := He.ba q
    exact of_decide_eq_true (List.all_eq_true.mp q6 p hp)
  · intro f fd e hn
    have q := (He.ba (List.all_eq_true.mp b3 f (hfs f fd e))).2
    rw [hn] at q
    exact PySem.W.mg_of X G (He.eqO_ok q)
  · exact fun f fd e => (He.ba (List.all_eq_true.mp b3 f (hfs f fd e))).1
  · intro g x e
    have q := List.all_eq_true.mp b4 g (hgs g x e)
    rw [e] at q
    have q : gcB W K g x = true := q
    unfold gcB at q
    split at q
    · rename_i u eu
      have hm := PySem.W.mg_of X G eu
      have sc : rscB W K u x = true → ∃ v u, mg (W.gn g) = some u ∧ RelV v u ∧ ∀ S H, Rep W K w S H v x := fun q => by
        obtain ⟨v, r, s⟩ := rscB_ok q
        exact ⟨v, u, hm, r, fun S H => .sc s⟩
      cases x with
      | tup xs =>
        cases u with
        | ref a =>
          have q : (match K.lookup a with
            | some ⟨.type c, _, .seq its _, _⟩ => decide (c = "tuple") && (decide (its.size ≤ sizeLine) && rscsB W K its.toList xs)
            | _ => false) = true := q
          split at q
          · rename_i c od its n sl lk
            obtain ⟨q1, q2⟩ := He.ba q
            obtain ⟨q2, q3⟩ := He.ba q2
            obtain ⟨vs, rv, rs⟩ := rscsB_ok (w := w) q3
            exact ⟨.ref a, .ref a, hm, rfl, fun S H => .ktup (fun H => .inr ⟨_, its, n, lk, congrArg Value.type (of_decide_eq_true q1), rfl, of_decide_eq_true q2, rv⟩) (rs S H)⟩
          · cases q
        | _ => cases q
      | kdc ks xs =>
        cases u with
        | ref a =>
          obtain ⟨q1, q2⟩ := He.ba (show (decide (ks.length = xs.length) && kvB W K a (zipD ks xs)) = true from q)
          have l := of_decide_eq_true q1
          have ea : He.ga K (W.gn g) = a := by
            unfold He.ga
            rw [eu]
          have td := tabs g ks xs e
          rw [ea] at td
          exact ⟨.ref a, .ref a, hm, rfl, fun S H => .kdic (kdic_of (es := #[]) (n := 0) l q2 td) l⟩
        | _ => cases q
      | non => exact sc q
      | bl _ => exact sc q
      | int _ => exact sc q
      | str _ => exact sc q
      | lst _ => exact sc q
      | dic _ _ => exact sc q
      | ins _ _ => exact sc q
      | cls _ => exact sc q
      | fn _ => exact sc q
      | obj _ => exact sc q
      | exc _ _ => exact sc q
    · cases q
  · exact fun x hx => PySem.W.mg_none_of X G (He.eqO_ok (List.all_eq_true.mp b5 x hx))
  · intro c cl d dl e ex ed
    have q := (He.ba (He.ba (He.ba (He.ba (P c cl e ex)).2).2).2).1
    have q := List.all_eq_true.mp (He.ba q).1 d (hcs d dl ed)
    rw [ed] at q
    exact of_decide_eq_true q
  · intro n d dl hn ed
    exact of_decide_eq_true (List.all_eq_true.mp (He.ba (He.ba (He.ba (He.ba (C d dl ed)).2).2).2).1 n hn)
  · intro c cl n e ex hn
    have q := (He.ba (He.ba (He.ba (He.ba (P c cl e ex)).2).2).2).1
    exact of_decide_eq_true (List.all_eq_true.mp (He.ba q).2 n hn)
  · intro c cl e ex
    have q := (He.ba (He.ba (He.ba (He.ba (P c cl e ex)).2).2).2).2
    obtain ⟨q1, q⟩ := He.ba q
    obtain ⟨q2, q⟩ := He.ba q
    obtain ⟨q3, q4⟩ := He.ba q
    exact ⟨He.eqO_ok q1, He.eqO_ok q2, of_decide_eq_true q3, of_decide_eq_true q4⟩
  · intro c cl e ex _
    have q := He.exc_ok (He.ba (He.ba (Ex c cl e ex)).2).1
    exact ⟨q.1, q.2.2.1, q.2.2.2⟩
  · intro c cl d dl e ex ed exd
    have q := List.all_eq_true.mp (He.ba (He.ba (Ex c cl e ex)).2).2 d (hcs d dl ed)
    rw [ed] at q
    have q : (!dl.exc || decide (PySem.W.exmOne K (.ref (ca W K c)) (.ref (ca W K d)) = some (cl.sups.contains d))) = true := q
    rw [exd] at q
    exact of_decide_eq_true q
end
end U
namespace U
open PySem PySem.Spec L2 PyProof.Rows
theorem look_zip : ∀ {ps : List Str} {us : List Value} {x : Str}, us.length = ps.length → x ∈ ps → ((ps.zip us).lookup x).isSome = true
  | [], _, _, _, m => by cases m
  | _ :: _, [], _, l, _ => by cases l
  | p :: ps, u :: us, x, l, m => by
    rw [List.zip_cons_cons, List.lookup_cons]
    cases q : (x == p) with
    | true => rfl
    | false =>
      rcases List.mem_cons.mp m with e | m
      · rw [e] at q
        simp at q
      · exact look_zip (Nat.succ.inj l) m
theorem filt_zip : ∀ {qs ps : List Str} {us vs : List Value}, us.length = ps.length → ps.Nodup → (∀ x ∈ qs, x ∈ ps) → (qs.filter fun n => ((ps.zip us).lookup n).isNone) = []
  | [], _, _, _, _, _, _ => rfl
  | q :: qs, ps, us, vs, l, nd, h => by
    have := look_zip l (h q List.mem_cons_self)
    rw [List.filter_cons, filt_zip (vs := vs) l nd fun x hx => h x (List.mem_cons_of_mem _ hx)]
    cases z : (ps.zip us).lookup q with
    | none => rw [z] at this; cases this
    | some _ => rfl
theorem fm_skip {p : Str} {u : Value} {z : List (Str × Value)} : ∀ {qs : List Str}, p ∉ qs → (qs.filterMap fun n => (((p, u) :: z).lookup n).map fun v => (n, v)) = qs.filterMap fun n => (z.lookup n).map fun v => (n, v)
  | [], _ => rfl
  | q :: qs, h => by
    have hne : (q == p) = false := by
      cases e : (q == p) with
      | false => rfl
      | true => rw [beq_iff_eq] at e; exact absurd (e ▸ List.mem_cons_self) h
    rw [List.filterMap_cons, List.filterMap_cons, fm_skip fun m => h (List.mem_cons_of_mem _ m), List.lookup_cons, hne]
theorem fm_zip : ∀ {ps : List Str} {us : List Value}, us.length = ps.length → ps.Nodup → (ps.filterMap fun n => ((ps.zip us).lookup n).map fun v => (n, v)) = ps.zip us
  | [], _, _, _ => rfl
  | _ :: _, [], l, _ => by cases l
  | p :: ps, u :: us, l, nd => by
    obtain ⟨n1, n2⟩ := List.nodup_cons.mp nd
    have ih := fm_zip (Nat.succ.inj l) n2
    have e1 : ((p, u) :: ps.zip us).lookup p = some u := by rw [List.lookup_cons, beq_self_eq_true]
    rw [List.zip_cons_cons, List.filterMap_cons, e1, fm_skip n1, ih]
    rfl
def plainP (ps : List Str) (params : Arguments) : Bool := params.posonlyargs.isEmpty && (decide (params.args.map (·.arg) = ps) && (params.vararg.isNone && (params.kwonlyargs.isEmpty && params.kwarg.isNone)))
theorem bind_plain {x qual : Str} {params : Arguments} {body : List Stmt} {scope : Scope} {ps : List Str} (hp : plainP ps params = true) (nd : ps.Nodup) (kV doc pm : Value) (an : Option Addr) (cdv ct : Value) (us : List Value) (l : us.length = ps.length) :
    bindArgs (PySem.W.fnOf x qual params body scope .none kV doc pm an cdv ct) ⟨us, []⟩ = pure (ps.zip us) := by
  obtain ⟨a, b, c, d, e, f, g⟩ := params
  obtain ⟨h1, hp⟩ := He.ba hp
  obtain ⟨h2, hp⟩ := He.ba hp
  obtain ⟨h3, hp⟩ := He.ba hp
  obtain ⟨h4, h5⟩ := He.ba hp
  replace h1 : a = [] := List.isEmpty_iff.mp h1
  replace h2 : b.map (·.arg) = ps := of_decide_eq_true h2
  replace h3 : c = none := Option.isNone_iff_eq_none.mp h3
  replace h4 : d = [] := List.isEmpty_iff.mp h4
  replace h5 : f = none := Option.isNone_iff_eq_none.mp h5
  subst h1 h3 h4 h5
  unfold bindArgs
  have hs : seqItems? Value.none = pure none := rfl
  simp only [PySem.W.fnOf, List.map_nil, List.nil_append, h2, hs, pure_bind, Option.getD_none, List.forIn_nil, List.drop_nil, List.length_nil, Nat.sub_zero, List.zip_nil_right, List.take_length, List.append_nil, l, filt_zip (vs := us) l nd fun x hx => hx, fm_zip l nd]
  simp
/-- a def's scope -/
def scB (N ps : List Str) (sc : Scope) : Bool := (match sc.kind with | .function => true | _ => false) && (!sc.isCoroutine && (!sc.isGenerator && (decide N.Nodup && (decide (N.take ps.length = ps) && ((ps.all fun x => match sc.names.lookup x with
  | some .local => true
  | some .cell => true
  | _ => false) && sc.names.all fun y => match y.2 with
  | .free => false
  | _ => true)))))
theorem scB_ok {N ps : List Str} {sc : Scope} (h : scB N ps sc = true) : FnScope N ps sc := by
  obtain ⟨h1, h⟩ := He.ba h
  obtain ⟨h2, h⟩ := He.ba h
  obtain ⟨h3, h⟩ := He.ba h
  obtain ⟨h4, h⟩ := He.ba h
  obtain ⟨h5, h⟩ := He.ba h
  obtain ⟨h6, h7⟩ := He.ba h
  refine ⟨?_, nb h2, nb h3, of_decide_eq_true h4, of_decide_eq_true h5, fun x hx => ?_, fun y hy e => ?_⟩
  · split at h1
    · assumption
    · cases h1
  · have q := List.all_eq_true.mp h6 x hx
    split at q
    · exact .inl (by assumption)
    · exact .inr (by assumption)
    · cases q
  · have q := List.all_eq_true.mp h7 y hy
    rw [e] at q
    cases q
section
variable {W : Wd} {K : PySem.W.Frag} {w : World} {x qual : Str} {params : Arguments} {bd : List Stmt} {scope : Scope} {dvs : List V} {kws : List (Str × V)} {fdata : FuncData} {N ps : List Str} {f fno : Nat} {a : Addr} {fd : Fd}
theorem bnd_plain (F : FunD K x qual params bd scope [] kws a fdata) (hp : plainP ps params = true) (nd : ps.Nodup) : Bnd W w K fdata ps [] [] := by
  intro s us ws ks X l c h1 h2
  have hk : ks = [] := c.resolve_right fun m => nomatch m
  subst hk
  have hw : ws = [] := List.length_eq_zero_iff.mp l
  subst hw
  have hl : us.length = ps.length := by
    simp only [List.length_nil, Nat.add_zero] at h1 h2
    omega
  refine ⟨[], [], .nil, fun S H => by rw [List.drop_nil]; exact .nil, ?_⟩
  have q := F.bindsA (ps := ps) (fun kV doc pm an cdv ct us l => bind_plain hp nd kV doc pm an cdv ct us l) s us hl
  rw [List.append_nil, List.append_nil]
  exact q
/-- what is looked at of a def -/
def okB (W : Wd) (fd : Fd) (N ps : List Str) (scope : Scope) (bd : List Stmt) : Bool := scB N ps scope && (decide (N.length = fd.ns) && (decide (ps.length ≤ N.length) && ((match fd.kind with
  | none => decide (ps.length = fd.np)
  | some c => decide (ps.length = fd.np + 1) && (!fd.fresh && (W.G.cls c).isSome)) && mSs W fd.fresh ⟨N, scope, true⟩ fd.body bd)))
theorem defOk_of (F : FunD K x qual params bd scope dvs kws (fa W K fno) fdata) (h : okB W fd N ps scope bd = true) (B : Bnd W w K fdata ps (W.kw fno) fd.dfl) : DefOk W K w fno fd := by
  obtain ⟨h1, h⟩ := He.ba h
  obtain ⟨h2, h⟩ := He.ba h
  obtain ⟨h3, h⟩ := He.ba h
  obtain ⟨h4, h5⟩ := He.ba h
  refine ⟨x, qual, params, bd, scope, dvs, kws, fdata, N, ps, F, scB_ok h1, of_decide_eq_true h2, of_decide_eq_true h3, ?_, h5, B⟩
  cases ek : fd.kind with
  | none =>
    rw [ek] at h4
    exact of_decide_eq_true h4
  | some c =>
    rw [ek] at h4
    obtain ⟨q1, q⟩ := He.ba h4
    obtain ⟨q2, q3⟩ := He.ba q
    exact ⟨of_decide_eq_true q1, nb q2, q3⟩
end
end U
namespace U
open PySem PySem.Spec L2 PyProof.Rows
section
variable {W : Wd} {fn : List He.DefD} {cs fs gs : List Nat} {ms : List (Nat × Nat)} {w : World} {h : Heap} {K : PySem.W.Frag} {mg : Str → Option Value}
theorem SaysU.tabs (c : SaysU W fn cs ms fs gs w h K) (hgs : ∀ g x, W.G.gcs g = some x → g ∈ gs) : ∀ g ks xs, W.G.gcs g = some (.kdc ks xs) → He.dicW K (He.ga K (W.gn g)) = some (He.keysIn w.params (txtsK ks)) := fun g ks xs e => by
  have t : (tabsU W gs).map (fun t => He.dicW K (t.1 K)) = (tabsU W gs).map fun t => some (He.keysIn w.params t.2) := congrArg (fun z : He.AlT => z.2) c.t
  have m : ((fun K => He.ga K (W.gn g), txtsK ks) : He.Tab) ∈ tabsU W gs := List.mem_filterMap.mpr ⟨g, hgs g _ e, by rw [e]⟩
  exact List.map_inj_left.mp t _ m
theorem SaysU.kf (c : SaysU W fn cs ms fs gs w h K) (G : h.Ns mainGlobals mg) (hcs : ∀ c cl, W.G.cls c = some cl → c ∈ cs) (hms : ∀ c m f, W.G.meth c m = some f → (c, m) ∈ ms ∧ (W.G.cls c).isSome = true) (hfs : ∀ f fd, W.G.fns f = some fd → f ∈ fs) (hgs : ∀ g x, W.G.gcs g = some x → g ∈ gs) : Kf W K w mg :=
  kf_of c.X G c.b (c.tabs hgs) hcs hms hfs hgs
theorem SaysU.def_ (c : SaysU W fn cs ms fs gs w h K) {d : He.DefD} (m : d ∈ fn) : ∃ fd, FunD K d.name d.qual d.params d.body d.scope (d.dvs K) (d.kws K) (He.fAd K d.at_) fd := by
  obtain ⟨i, hi, e⟩ := List.mem_iff_getElem.mp m
  exact He.SaysD.def_ c.t.d i (by rw [List.getElem?_eq_getElem hi, e])
end
end U
namespace U
open PySem PySem.Spec L2 PyProof.Rows
section
variable {W : Wd} {K : PySem.W.Frag} {w : World} {x qual : Str} {params : Arguments} {bd : List Stmt} {scope : Scope} {dvs : List V} {kws : List (Str × V)} {fdata : FuncData} {ps : List Str} {a : Addr}
/-- no defaults: keywords alone -/
theorem bnd_kw {kw : List (Nat × List Str)} (F : FunD K x qual params bd scope [] kws a fdata)
    (h0 : ∀ (kV doc pm : Value) (an : Option Addr) (cdv ct : Value) (us : List Value), us.length = ps.length → bindArgs (PySem.W.fnOf x qual params bd scope .none kV doc pm an cdv ct) ⟨us, []⟩ = pure (ps.zip us))
    (h1 : ∀ q ∈ kw, q.1 + q.2.length = ps.length → ∀ (kV doc pm : Value) (an : Option Addr) (cdv ct : Value) (us ws : List Value), us.length = q.1 → ws.length = q.2.length → bindArgs (PySem.W.fnOf x qual params bd scope .none kV doc pm an cdv ct) ⟨us, q.2.zip ws⟩ = pure (ps.zip (us ++ ws))) : Bnd W w K fdata ps kw [] := by
  intro s us ws ks X l c l1 l2
  obtain ⟨oc, od, dV, kV, doc, pm, an, cdv, ct, osl, rfl, lk, hcd, hD, hK⟩ := F.ex
  rcases hD with ⟨_, rfl⟩ | ⟨e, _⟩
  · simp only [List.length_nil, Nat.add_zero] at l2
    refine ⟨[], [], .nil, fun S H => by rw [List.drop_nil]; exact .nil, ?_⟩
    rw [List.append_nil]
    rcases c with c | c
    · subst c
      have hw : ws = [] := List.length_eq_zero_iff.mp l
      subst hw
      rw [List.append_nil]
      exact .of_eq (h0 kV doc pm an cdv ct us (by simp only [List.length_nil] at l1 l2; omega))
    · exact .of_eq (h1 _ c (by dsimp only; omega) kV doc pm an cdv ct us ws rfl (by dsimp only; omega))
  · exact absurd rfl e
/-- with defaults -/
theorem bnd_dfl {kw : List (Nat × List Str)} {dfl : List PV} (F : FunD K x qual params bd scope dvs kws a fdata) (hd : dvs ≠ []) (hl : dvs.length = dfl.length) (hr : ∀ S H, Reps W K w S H dvs dfl)
    (h0 : ∀ (T : Addr) (kV doc pm : Value) (an : Option Addr) (cdv ct : Value) (us its : List Value), us.length ≤ ps.length → ps.length ≤ us.length + its.length → its.length = dvs.length →
      ∃ k, bindArgs (PySem.W.fnOf x qual params bd scope (.ref T) kV doc pm an cdv ct) ⟨us, []⟩ = seqItems? (.ref T) >>= k ∧ k (some its.toArray) = pure (ps.zip (us ++ its.drop (its.length - (ps.length - us.length)))))
    (h1 : ∀ q ∈ kw, ∀ (T : Addr) (kV doc pm : Value) (an : Option Addr) (cdv ct : Value) (us ws its : List Value), us.length = q.1 → ws.length = q.2.length → us.length + ws.length ≤ ps.length → ps.length ≤ us.length + ws.length + its.length → its.length = dvs.length →
      ∃ k, bindArgs (PySem.W.fnOf x qual params bd scope (.ref T) kV doc pm an cdv ct) ⟨us, q.2.zip ws⟩ = seqItems? (.ref T) >>= k ∧ k (some its.toArray) = pure (ps.zip (us ++ ws ++ its.drop (its.length - (ps.length - (us.length + ws.length)))))) : Bnd W w K fdata ps kw dfl := by
  intro s us ws ks X l c l1 l2
  obtain ⟨oc, od, dV, kV, doc, pm, an, cdv, ct, osl, rfl, lk, hcd, hD, hK⟩ := F.ex
  rcases hD with ⟨e, _⟩ | ⟨_, T, o, its, m, rfl, lT, oT, rT⟩
  · exact absurd e hd
  · have li : its.length = dvs.length := rT.length.symm
    refine ⟨its.drop (its.length - (ps.length - (us.length + ws.length))), dvs.drop (its.length - (ps.length - (us.length + ws.length))), rT.drop _, fun S H => ?_, ?_⟩
    · rw [li, hl]
      exact (hr S H).drop _
    · rcases c with c | c
      · subst c
        have hw : ws = [] := List.length_eq_zero_iff.mp l
        subst hw
        simp only [List.length_nil, Nat.add_zero] at l1 l2
        obtain ⟨k, e1, e2⟩ := h0 T kV doc pm an cdv ct us its (by omega) (by omega) li
        refine BindsTo.of_looks fun M => ?_
        show PySem.W.Looks M s.heap (bindArgs _ ⟨us, []⟩) _
        rw [e1, List.append_nil, List.length_nil, Nat.add_zero]
        exact looks_items X lT oT (.of_pure e2)
      · obtain ⟨k, e1, e2⟩ := h1 _ c T kV doc pm an cdv ct us ws its rfl (by dsimp only; omega) (by omega) (by omega) li
        refine BindsTo.of_looks fun M => ?_
        dsimp only at e1
        rw [e1]
        exact looks_items X lT oT (.of_pure e2)
end
end U
namespace U
open PySem L2
theorem nr {α : Type} {a b : α} (h : a = b) : a = b := h
class Ko (σ α β : Type) where go : α → σ → R σ β
class Th (β : Type) where go : Unit → β
class Fo (α β : Type) where go : α → β
def bI {σ α β : Type} (r : R σ α) [k : Ko σ α β] : R σ β := r.bind k.go
def bF {β : Type} (b : Bool) [x : Th β] [y : Th β] : β := match b with
  | true => x.go ()
  | false => y.go ()
def oI {α β : Type} (o : Option α) [k : Fo α β] [n : Th β] : β := match o with
  | some a => k.go a
  | none => n.go ()
section
variable {σ α β : Type}
@[simp] theorem bI_ok (a : α) (s : σ) (f : α → σ → R σ β) : @bI _ _ _ (.ok a s) ⟨f⟩ = f a s := nr rfl
@[simp] theorem bI_ex (c : Nat) (vs : List PV) (s : σ) (k : Ko σ α β) : @bI _ _ _ (.ex c vs s) k = .ex c vs s := nr rfl
@[simp] theorem bI_no (k : Ko σ α β) : @bI _ _ _ .no k = .no := nr rfl
@[simp] theorem bF_t (f : Unit → β) (y : Th β) : @bF _ true ⟨f⟩ y = f () := nr rfl
@[simp] theorem bF_f (x : Th β) (f : Unit → β) : @bF _ false x ⟨f⟩ = f () := nr rfl
@[simp] theorem oI_s (a : α) (f : α → β) (n : Th β) : @oI _ _ (some a) ⟨f⟩ n = f a := nr rfl
@[simp] theorem oI_n (k : Fo α β) (f : Unit → β) : @oI _ _ none k ⟨f⟩ = f () := nr rfl
theorem ko_go (f : α → σ → R σ β) (a : α) (s : σ) : (Ko.mk f).go a s = f a s := rfl
@[simp] theorem opt_s (s : σ) (a : α) : R.opt s (some a) = .ok a s := nr rfl
@[simp] theorem opt_n (s : σ) : (R.opt s (none : Option α)) = .no := nr rfl
end
@[simp] theorem up_ok (fs : FS) (v : PV) (h : Hb) : R.up fs (.ok v h) = .ok v { fs with hp := h } := nr rfl
@[simp] theorem up_ex (fs : FS) (c : Nat) (vs : List PV) (h : Hb) : R.up fs (.ex c vs h) = .ex c vs { fs with hp := h } := nr rfl
@[simp] theorem upI_ok (fs : FS) (c : Nat) (vs : List PV) (h : Hb) : R.upI fs (.ok (.ins c vs) h) = .ok (.ins c vs) { fs with hp := h } := nr rfl
@[simp] theorem upI_ex (fs : FS) (c : Nat) (vs : List PV) (h : Hb) : R.upI fs (.ex c vs h) = .ex c vs { fs with hp := h } := nr rfl
@[simp] theorem getL_ok (xs : List PV) (fs : FS) : getL (.ok (.lst xs) fs) = .ok xs fs := nr rfl
@[simp] theorem getL_ex (c : Nat) (vs : List PV) (fs : FS) : getL (.ex c vs fs) = .ex c vs fs := nr rfl
@[simp] theorem getD_ok (ks : List Key) (vs : List PV) (fs : FS) : getD (.ok (.dic ks vs) fs) = .ok (zipD ks vs) fs := nr rfl
@[simp] theorem getD_ex (c : Nat) (vs : List PV) (fs : FS) : getD (.ex c vs fs) = .ex c vs fs := nr rfl
@[simp] theorem get_mk (sl : List Sl) (hp : Hb) (i : Nat) : FS.get ⟨sl, hp⟩ i = oI sl[i]? (k := ⟨fun s => match s with
    | .val v => some v
    | _ => none⟩) (n := ⟨fun _ => none⟩) := by
  unfold FS.get
  show (match sl[i]? with
    | some (.val v) => some v
    | _ => none) = _
  cases sl[i]? with
  | none => rfl
  | some s => cases s <;> rfl
@[simp] theorem set_mk (sl : List Sl) (hp : Hb) (i : Nat) (v : PV) : FS.set ⟨sl, hp⟩ i v = ⟨sl.set i (.val v), hp⟩ := nr rfl
@[simp] theorem putS_mk (sl : List Sl) (hp : Hb) (i : Nat) (v : Sl) : putS ⟨sl, hp⟩ i v = ⟨sl.set i v, hp⟩ := nr rfl
@[simp] theorem putO_mk (sl : List Sl) (hp : Hb) (a : Nat) (o : HB) : putO ⟨sl, hp⟩ a o = ⟨sl, hp.set a o⟩ := nr rfl
@[simp] theorem frzS_mk (sl : List Sl) (hp : Hb) (i : Nat) : frzS ⟨sl, hp⟩ i = oI sl[i]? (k := ⟨fun (s : Sl) => match s with
    | .lst xs => R.ok (PV.lst xs) ⟨sl.set i (.val (.lst xs)), hp⟩
    | .dic kvs => R.ok (PV.dic (kvs.map fun q : Key × PV => q.1) (kvs.map fun q : Key × PV => q.2)) ⟨sl.set i (.val (.dic (kvs.map fun q : Key × PV => q.1) (kvs.map fun q : Key × PV => q.2))), hp⟩
    | _ => .no⟩) (n := ⟨fun _ => .no⟩) := by
  unfold frzS
  show (match sl[i]? with
    | some (.lst xs) => R.ok (PV.lst xs) (FS.set ⟨sl, hp⟩ i (.lst xs))
    | some (.dic kvs) => R.ok (PV.dic (kvs.map fun q : Key × PV => q.1) (kvs.map fun q : Key × PV => q.2)) (FS.set ⟨sl, hp⟩ i (.dic (kvs.map fun q : Key × PV => q.1) (kvs.map fun q : Key × PV => q.2)))
    | _ => .no) = _
  cases sl[i]? with
  | none => rfl
  | some s => cases s <;> rfl
def pif {β : Type} (p : Prop) [Decidable p] [x : Th β] [y : Th β] : β := if p then x.go () else y.go ()
theorem pif_t {β : Type} {p : Prop} [Decidable p] (h : p) (x y : Th β) : @pif _ p _ x y = x.go () := if_pos h
theorem pif_f {β : Type} {p : Prop} [Decidable p] (h : ¬ p) (x y : Th β) : @pif _ p _ x y = y.go () := if_neg h
@[simp] theorem pif_T {β : Type} {i : Decidable True} (f : Unit → β) (y : Th β) : @pif _ True i ⟨f⟩ y = f () := if_pos trivial
@[simp] theorem pif_F {β : Type} {i : Decidable False} (x : Th β) (f : Unit → β) : @pif _ False i x ⟨f⟩ = f () := if_neg (fun h => h)
def tupR (vs : List PV) (fs : FS) : R FS PV := if vs.length ≤ sizeLine then .ok (.tup vs) fs else .no
def lstR (vs : List PV) (fs : FS) : R FS (List PV) := if vs.length ≤ sizeLine then .ok vs fs else .no
theorem tupR_ok {vs : List PV} {fs : FS} (h : vs.length ≤ sizeLine) : tupR vs fs = .ok (.tup vs) fs := if_pos h
theorem lstR_ok {vs : List PV} {fs : FS} (h : vs.length ≤ sizeLine) : lstR vs fs = .ok vs fs := if_pos h
theorem le_sz {n : Nat} (h : n ≤ 100000) : n ≤ sizeLine := Nat.le_trans h (by decide)
@[simp] theorem tupR_0 (fs : FS) : tupR [] fs = .ok (.tup []) fs := tupR_ok (le_sz (by simp))
@[simp] theorem tupR_1 (a : PV) (fs : FS) : tupR [a] fs = .ok (.tup [a]) fs := tupR_ok (le_sz (by simp))
@[simp] theorem tupR_2 (a b : PV) (fs : FS) : tupR [a, b] fs = .ok (.tup [a, b]) fs := tupR_ok (le_sz (by simp))
@[simp] theorem tupR_3 (a b c : PV) (fs : FS) : tupR [a, b, c] fs = .ok (.tup [a, b, c]) fs := tupR_ok (le_sz (by simp))
@[simp] theorem tupR_4 (a b c d : PV) (fs : FS) : tupR [a, b, c, d] fs = .ok (.tup [a, b, c, d]) fs := tupR_ok (le_sz (by simp))
@[simp] theorem tupR_5 (a b c d e : PV) (fs : FS) : tupR [a, b, c, d, e] fs = .ok (.tup [a, b, c, d, e]) fs := tupR_ok (le_sz (by simp))
@[simp] theorem lstR_0 (fs : FS) : lstR [] fs = .ok [] fs := lstR_ok (le_sz (by simp))
@[simp] theorem lstR_1 (a : PV) (fs : FS) : lstR [a] fs = .ok [a] fs := lstR_ok (le_sz (by simp))
@[simp] theorem lstR_2 (a b : PV) (fs : FS) : lstR [a, b] fs = .ok [a, b] fs := lstR_ok (le_sz (by simp))
@[simp] theorem lstR_3 (a b c : PV) (fs : FS) : lstR [a, b, c] fs = .ok [a, b, c] fs := lstR_ok (le_sz (by simp))
@[simp] theorem lstR_4 (a b c d : PV) (fs : FS) : lstR [a, b, c, d] fs = .ok [a, b, c, d] fs := lstR_ok (le_sz (by simp))
@[simp] theorem lstR_5 (a b c d e : PV) (fs : FS) : lstR [a, b, c, d, e] fs = .ok [a, b, c, d, e] fs := lstR_ok (le_sz (by simp))
@[simp] theorem lstR_6 (a b c d e f : PV) (fs : FS) : lstR [a, b, c, d, e, f] fs = .ok [a, b, c, d, e, f] fs := lstR_ok (le_sz (by simp))
@[simp] theorem lstR_7 (a b c d e f g : PV) (fs : FS) : lstR [a, b, c, d, e, f, g] fs = .ok [a, b, c, d, e, f, g] fs := lstR_ok (le_sz (by simp))
@[simp] theorem lstR_8 (a b c d e f g i : PV) (fs : FS) : lstR [a, b, c, d, e, f, g, i] fs = .ok [a, b, c, d, e, f, g, i] fs := lstR_ok (le_sz (by simp))
section
variable {ev : Ev} {fs : FS}
@[simp] theorem E_var (i : Nat) : evE ev (.var i) fs = .opt fs (fs.get i) := by rw [evE]
@[simp] theorem E_frz (i : Nat) : evE ev (.frz i) fs = frzS fs i := by rw [evE]
@[simp] theorem E_int (i : Int) : evE ev (.int i) fs = .ok (.int i) fs := by rw [evE]
@[simp] theorem E_str (i : Str) : evE ev (.str i) fs = .ok (.str i) fs := by rw [evE]
@[simp] theorem E_bl (i : Bool) : evE ev (.bl i) fs = .ok (.bl i) fs := by rw [evE]
@[simp] theorem E_non : evE ev .non fs = .ok .non fs := by rw [evE]
@[simp] theorem E_gcls (c : Nat) : evE ev (.gcls c) fs = .ok (.cls c) fs := by rw [evE]
@[simp] theorem E_gfn (c : Nat) : evE ev (.gfn c) fs = .ok (.fn c) fs := by rw [evE]
@[simp] theorem E_gc (c : Nat) : evE ev (.gc c) fs = .opt fs (ev.G.gcs c) := by rw [evE]
@[simp] theorem E_tup (es : Es) : evE ev (.tup es) fs = bI (evEs ev es fs) (k := ⟨fun vs fs => tupR vs fs⟩) := by rw [evE]; rfl
@[simp] theorem E_lst (l : LE) : evE ev (.lst l) fs = bI (evL ev l fs) (k := ⟨fun vs fs => .ok (.lst vs) fs⟩) := by rw [evE]; rfl
@[simp] theorem E_hlst (l : LE) : evE ev (.hlst l) fs = bI (evL ev l fs) (k := ⟨fun vs fs => newO fs (.lst vs)⟩) := by rw [evE]; rfl
@[simp] theorem E_dic (l : DE) : evE ev (.dic l) fs = bI (evD ev l fs) (k := ⟨fun kvs fs => .ok (.dic (kvs.map (·.1)) (kvs.map (·.2))) fs⟩) := by rw [evE]; rfl
@[simp] theorem E_hdic (l : DE) : evE ev (.hdic l) fs = bI (evD ev l fs) (k := ⟨fun kvs fs => newO fs (.dic kvs)⟩) := by rw [evE]; rfl
@[simp] theorem E_bin (o : BO) (a b : E) : evE ev (.bin o a b) fs = bI (evE ev a fs) (k := ⟨fun x fs => bI (evE ev b fs) (k := ⟨fun y fs => .opt fs (evBin o x y)⟩)⟩) := by rw [evE]; rfl
def negR (x : PV) (fs : FS) : R FS PV := match x with
  | .int i => .ok (.int (-i)) fs
  | _ => .no
@[simp] theorem negR_i (i : Int) : negR (.int i) fs = .ok (.int (-i)) fs := nr rfl
@[simp] theorem E_neg (a : E) : evE ev (.neg a) fs = bI (evE ev a fs) (k := ⟨negR⟩) := by rw [evE]; rfl
@[simp] theorem E_cmp (o : CO) (a b : E) : evE ev (.cmp o a b) fs = bI (evE ev a fs) (k := ⟨fun x fs => bI (evE ev b fs) (k := ⟨fun y fs => .opt fs ((evCmp o fs.hp x y).map .bl)⟩)⟩) := by rw [evE]; rfl
@[simp] theorem E_chn (o o' : CO) (a b c : E) : evE ev (.chn o o' a b c) fs = bI (evE ev a fs) (k := ⟨fun x fs => bI (evE ev b fs) (k := ⟨fun y fs => oI (evCmp o fs.hp x y) (k := ⟨fun k => bF k (x := ⟨fun _ => bI (evE ev c fs) (k := ⟨fun z fs => .opt fs ((evCmp o' fs.hp y z).map .bl)⟩)⟩) (y := ⟨fun _ => .ok (.bl false) fs⟩)⟩) (n := ⟨fun _ => .no⟩)⟩)⟩) := by
  rw [evE]
  show R.bind _ _ = R.bind _ _
  congr 1
  funext x fs
  show R.bind _ _ = R.bind _ _
  congr 1
  funext y fs
  dsimp only [ko_go]
  cases evCmp o fs.hp x y with
  | none => rfl
  | some k => cases k <;> rfl
def blR (x : PV) [t : Th (R FS PV)] [f : Th (R FS PV)] : R FS PV := match x with
  | .bl true => t.go ()
  | .bl false => f.go ()
  | _ => .no
@[simp] theorem blR_b (b : Bool) (t f : Th (R FS PV)) : @blR (.bl b) t f = @bF _ b t f := by cases b <;> rfl
@[simp] theorem E_andv (a b : E) : evE ev (.andv a b) fs = bI (evE ev a fs) (k := ⟨fun x fs => blR x (t := ⟨fun _ => evE ev b fs⟩) (f := ⟨fun _ => .ok (.bl false) fs⟩)⟩) := by rw [evE]; rfl
@[simp] theorem E_orv (a b : E) : evE ev (.orv a b) fs = bI (evE ev a fs) (k := ⟨fun x fs => blR x (t := ⟨fun _ => .ok (.bl true) fs⟩) (f := ⟨fun _ => evE ev b fs⟩)⟩) := by rw [evE]; rfl
def notR (x : PV) (fs : FS) : R FS PV := match x with
  | .bl k => .ok (.bl (!k)) fs
  | _ => .no
@[simp] theorem notR_b (b : Bool) : notR (.bl b) fs = .ok (.bl (!b)) fs := nr rfl
@[simp] theorem E_notv (a : E) : evE ev (.notv a) fs = bI (evE ev a fs) (k := ⟨notR⟩) := by rw [evE]; rfl
def isNon : PV → Bool
  | .non => true
  | _ => false
@[simp] theorem E_isn (a : E) (neg : Bool) : evE ev (.isn a neg) fs = bI (evE ev a fs) (k := ⟨fun x fs => .ok (.bl (isNon x != neg)) fs⟩) := by
  rw [evE]
  show R.bind _ _ = R.bind _ _
  congr 1
  funext x fs
  dsimp only [ko_go] <;> (cases x <;> cases neg <;> rfl)
@[simp] theorem E_ifx (t : T) (a b : E) : evE ev (.ifx t a b) fs = bI (evT ev t fs) (k := ⟨fun k fs => bF k (x := ⟨fun _ => evE ev a fs⟩) (y := ⟨fun _ => evE ev b fs⟩)⟩) := by rw [evE]; rfl
@[simp] theorem E_fld (a : E) (k : Nat) : evE ev (.fld a k) fs = bI (evE ev a fs) (k := ⟨fun x fs => .opt fs (fldV ev.G fs.hp x k)⟩) := by rw [evE]; rfl
@[simp] theorem E_ix (a b : E) : evE ev (.ix a b) fs = bI (evE ev a fs) (k := ⟨fun x fs => bI (evE ev b fs) (k := ⟨fun y fs => .opt fs (evIx fs.hp x y)⟩)⟩) := by rw [evE]; rfl
@[simp] theorem E_sl (a : E) (lo hi : O) : evE ev (.sl a lo hi) fs = bI (evE ev a fs) (k := ⟨fun x fs => bI (evO ev lo fs) (k := ⟨fun i fs => bI (evO ev hi fs) (k := ⟨fun j fs => .opt fs (evSl x i j)⟩)⟩)⟩) := by rw [evE]; rfl
@[simp] theorem E_call (f : Nat) (es : Es) : evE ev (.call f es) fs = bI (evEs ev es fs) (k := ⟨fun vs fs => pcall ev f vs fs⟩) := by rw [evE]; rfl
def callvR (ev : Ev) (x : PV) (es : Es) (fs : FS) : R FS PV := match x with
  | .fn f => match plainFn ev.G f with
    | true => (evEs ev es fs).bind fun vs fs => pcall ev f vs fs
    | false => .no
  | _ => .no
@[simp] theorem callvR_f (f : Nat) (es : Es) : callvR ev (.fn f) es fs = bF (plainFn ev.G f) (x := ⟨fun _ => bI (evEs ev es fs) (k := ⟨fun vs fs => pcall ev f vs fs⟩)⟩) (y := ⟨fun _ => .no⟩) := by
  show (match plainFn ev.G f with
    | true => (evEs ev es fs).bind fun vs fs => pcall ev f vs fs
    | false => .no) = _
  cases plainFn ev.G f <;> rfl
@[simp] theorem E_callv (a : E) (es : Es) : evE ev (.callv a es) fs = bI (evE ev a fs) (k := ⟨fun x fs => callvR ev x es fs⟩) := by rw [evE]; rfl
@[simp] theorem E_mk (c : Nat) (es : Es) : evE ev (.mk c es) fs = bI (evEs ev es fs) (k := ⟨fun vs fs => mkF ev c vs fs⟩) := by rw [evE]; rfl
@[simp] theorem E_mkh (c : Nat) (es : Es) : evE ev (.mkh c es) fs = bI (evEs ev es fs) (k := ⟨fun vs fs => mkH ev c vs fs⟩) := by rw [evE]; rfl
@[simp] theorem E_meth (a : E) (m : Nat) (es : Es) : evE ev (.meth a m es) fs = bI (evE ev a fs) (k := ⟨fun x fs => oI (mfind ev.G fs.hp x m) (k := ⟨fun f => bI (evEs ev es fs) (k := ⟨fun vs fs => pcall ev f (x :: vs) fs⟩)⟩) (n := ⟨fun _ => .no⟩)⟩) := by
  rw [evE]
  show R.bind _ _ = R.bind _ _
  congr 1
  funext x fs
  dsimp only [ko_go] <;> (cases mfind ev.G fs.hp x m <;> rfl)
@[simp] theorem E_bf (b : BF) (es : Es) : evE ev (.bf b es) fs = bI (evEs ev es fs) (k := ⟨fun vs fs => .opt fs (evBF b fs.hp vs)⟩) := by rw [evE]; rfl
@[simp] theorem E_bm (m : BM) (a : E) (es : Es) : evE ev (.bm m a es) fs = bI (evE ev a fs) (k := ⟨fun x fs => bF (bmOk m fs.hp x) (x := ⟨fun _ => bI (evEs ev es fs) (k := ⟨fun vs fs => .opt fs (evBM m fs.hp x vs)⟩)⟩) (y := ⟨fun _ => .no⟩)⟩) := by
  rw [evE]
  show R.bind _ _ = R.bind _ _
  congr 1
@[simp] theorem E_get2 (a b d : E) : evE ev (.get2 a b d) fs = bI (evE ev a fs) (k := ⟨fun x fs => bF (asD fs.hp x).isSome (x := ⟨fun _ => bI (evE ev b fs) (k := ⟨fun y fs => bI (evE ev d fs) (k := ⟨fun z fs => .opt fs (getO fs.hp x y z)⟩)⟩)⟩) (y := ⟨fun _ => .no⟩)⟩) := by
  rw [evE]
  show R.bind _ _ = R.bind _ _
  congr 1
@[simp] theorem E_mm (m : MM) (a : E) (es : Es) : evE ev (.mm m a es) fs = bI (evE ev a fs) (k := ⟨fun x fs => bF (isLst fs.hp x) (x := ⟨fun _ => bI (evEs ev es fs) (k := ⟨fun vs fs => mutO m x vs fs⟩)⟩) (y := ⟨fun _ => .no⟩)⟩) := by
  rw [evE]
  show R.bind _ _ = R.bind _ _
  congr 1
@[simp] theorem E_mo (m : MM) (i : Nat) (es : Es) : evE ev (.mo m i es) fs = bF (slLst fs i) (x := ⟨fun _ => bI (evEs ev es fs) (k := ⟨fun vs fs => mutS m i vs fs⟩)⟩) (y := ⟨fun _ => .no⟩) := by
  rw [evE]
  cases slLst fs i <;> rfl
@[simp] theorem E_isi (a : E) (cs : List TyR) : evE ev (.isi a cs) fs = bI (evE ev a fs) (k := ⟨fun x fs => .opt fs ((isAny ev.G fs.hp x cs).map .bl)⟩) := by rw [evE]; rfl
@[simp] theorem O_n : evO ev .n fs = .ok none fs := by rw [evO]
def oR (x : PV) (fs : FS) : R FS (Option Int) := match x with
  | .int i => .ok (some i) fs
  | _ => .no
@[simp] theorem oR_i (i : Int) : oR (.int i) fs = .ok (some i) fs := nr rfl
@[simp] theorem O_e (a : E) : evO ev (.e a) fs = bI (evE ev a fs) (k := ⟨oR⟩) := by rw [evO]; rfl
@[simp] theorem Es_nil : evEs ev .nil fs = .ok [] fs := by rw [evEs]
@[simp] theorem Es_cons (e : E) (es : Es) : evEs ev (.cons e es) fs = bI (evE ev e fs) (k := ⟨fun v fs => bI (evEs ev es fs) (k := ⟨fun vs fs => .ok (v :: vs) fs⟩)⟩) := by rw [evEs]; rfl
@[simp] theorem L_disp (es : Es) : evL ev (.disp es) fs = bI (evEs ev es fs) (k := ⟨lstR⟩) := by rw [evL]; rfl
/-- a comprehension -/
def cmpR (r : R Hb (List PV)) (fs : FS) : R FS (List PV) := match r with
  | .ok ys h => .ok ys { fs with hp := h }
  | _ => .no
@[simp] theorem cmpR_ok (ys : List PV) (h : Hb) : cmpR (.ok ys h) fs = .ok ys { fs with hp := h } := nr rfl
/-- one turn of it -/
def turnR (ev : Ev) (elt : E) (tg : Tg) (ts : Ts) (x : PV) (f : FS) : R FS (Option PV) := match asg tg x f with
  | some f => (evTs ev ts f).bind fun k f => match k with
    | true => (evE ev elt f).bind fun v f => .ok (some v) f
    | false => .ok none f
  | none => .no
@[simp] theorem turnR_eq (elt : E) (tg : Tg) (ts : Ts) (x : PV) : turnR ev elt tg ts x fs = oI (asg tg x fs) (k := ⟨fun f => bI (evTs ev ts f) (k := ⟨fun k f => bF k (x := ⟨fun _ => bI (evE ev elt f) (k := ⟨fun v f => .ok (some v) f⟩)⟩) (y := ⟨fun _ => .ok none f⟩)⟩)⟩) (n := ⟨fun _ => .no⟩) := by
  unfold turnR
  cases asg tg x fs <;> rfl
@[simp] theorem L_comp (elt : E) (tg : Tg) (it : IE) (w : List Nat) (ts : Ts) : evL ev (.comp elt tg it w ts) fs = bI (evI ev it fs) (k := ⟨fun xs fs => cmpR (cmpN (turnR ev elt tg ts) xs fs.hp (blk fs w).sl []) fs⟩) := by
  rw [evL]
  show R.bind _ _ = R.bind _ _
  congr 1
@[simp] theorem L_of (a : E) : evL ev (.of a) fs = bI (evE ev a fs) (k := ⟨fun x fs => .opt fs (asOf fs.hp x)⟩) := by rw [evL]; rfl
@[simp] theorem L_sl (a : E) (lo hi : O) : evL ev (.sl a lo hi) fs = bI (evE ev a fs) (k := ⟨fun x fs => bI (evO ev lo fs) (k := ⟨fun i fs => bI (evO ev hi fs) (k := ⟨fun j fs => .opt fs ((asL fs.hp x).map fun xs => cut xs i j)⟩)⟩)⟩) := by rw [evL]; rfl
def catO (h : Hb) (x y : PV) : Option (List PV) := (asL h x).bind fun xs => (asL h y).bind fun ys => if xs.length + ys.length ≤ sizeLine then some (xs ++ ys) else none
@[simp] theorem L_cat (a b : E) : evL ev (.cat a b) fs = bI (evE ev a fs) (k := ⟨fun x fs => bI (evE ev b fs) (k := ⟨fun y fs => .opt fs (catO fs.hp x y)⟩)⟩) := by rw [evL]; rfl
def repR (x y : PV) (fs : FS) : R FS (List PV) := match y with
    | .int n => .opt fs ((asL fs.hp x).bind fun xs => if 0 ≤ n ∧ n ≤ 1000 ∧ xs.length ≤ 1000 then some (List.replicate n.toNat xs).flatten else none)
    | _ => .no
@[simp] theorem L_rep (a b : E) : evL ev (.rep a b) fs = bI (evE ev a fs) (k := ⟨fun x fs => bI (evE ev b fs) (k := ⟨fun y fs => repR x y fs⟩)⟩) := by rw [evL]; rfl
def srtdO (h : Hb) (x : PV) : Option (List PV) := (asD h x).bind fun kvs => (txts (kvs.map fun kv => keyV kv.1)).bind fun ts => if ts.length < 64 then some ((sortT ts).map .str) else none
@[simp] theorem L_srtd (a : E) : evL ev (.srtd a) fs = bI (evE ev a fs) (k := ⟨fun x fs => .opt fs (srtdO fs.hp x)⟩) := by rw [evL]; rfl
def srtsO (h : Hb) (x : PV) : Option (List PV) := (asL h x).bind fun xs => (txts xs).bind fun ts => if ts.length < 4000 ∧ (dedupT ts).length < 64 then some ((sortT (dedupT ts)).map .str) else none
@[simp] theorem L_srts (a : E) : evL ev (.srts a) fs = bI (evE ev a fs) (k := ⟨fun x fs => .opt fs (srtsO fs.hp x)⟩) := by rw [evL]; rfl
@[simp] theorem L_rvs (a : E) : evL ev (.rvs a) fs = bI (evE ev a fs) (k := ⟨fun x fs => .opt fs ((asL fs.hp x).map List.reverse)⟩) := by rw [evL]; rfl
@[simp] theorem L_vals (a : E) : evL ev (.vals a) fs = bI (evE ev a fs) (k := ⟨fun x fs => .opt fs ((asD fs.hp x).map fun kvs => kvs.map (·.2))⟩) := by rw [evL]; rfl
@[simp] theorem L_call (f : Nat) (es : Es) : evL ev (.call f es) fs = bI (evEs ev es fs) (k := ⟨fun vs fs => getL (fcall ev f vs fs)⟩) := by rw [evL]; rfl
@[simp] theorem L_meth (a : E) (m : Nat) (es : Es) : evL ev (.meth a m es) fs = bI (evE ev a fs) (k := ⟨fun x fs => oI (mfind ev.G fs.hp x m) (k := ⟨fun f => bI (evEs ev es fs) (k := ⟨fun vs fs => getL (fcall ev f (x :: vs) fs)⟩)⟩) (n := ⟨fun _ => .no⟩)⟩) := by
  rw [evL]
  show R.bind _ _ = R.bind _ _
  congr 1
  funext x fs
  dsimp only [ko_go] <;> (cases mfind ev.G fs.hp x m <;> rfl)
@[simp] theorem D_emp : evD ev .emp fs = .ok [] fs := by rw [evD]
def dispR (kvs : List (Key × PV)) (fs : FS) : R FS (List (Key × PV)) := if kvs.length ≤ 15 then .ok (kvs.foldl (fun acc kv => dPut acc kv.1 kv.2) []) fs else .no
@[simp] theorem D_disp (ds : Ds) : evD ev (.disp ds) fs = bI (evDs ev ds fs) (k := ⟨dispR⟩) := by rw [evD]; rfl
@[simp] theorem D_of (a : E) : evD ev (.of a) fs = bI (evE ev a fs) (k := ⟨fun x fs => .opt fs (asD fs.hp x)⟩) := by rw [evD]; rfl
@[simp] theorem D_call (f : Nat) (es : Es) : evD ev (.call f es) fs = bI (evEs ev es fs) (k := ⟨fun vs fs => getD (fcall ev f vs fs)⟩) := by rw [evD]; rfl
@[simp] theorem D_meth (a : E) (m : Nat) (es : Es) : evD ev (.meth a m es) fs = bI (evE ev a fs) (k := ⟨fun x fs => oI (mfind ev.G fs.hp x m) (k := ⟨fun f => bI (evEs ev es fs) (k := ⟨fun vs fs => getD (fcall ev f (x :: vs) fs)⟩)⟩) (n := ⟨fun _ => .no⟩)⟩) := by
  rw [evD]
  show R.bind _ _ = R.bind _ _
  congr 1
  funext x fs
  dsimp only [ko_go] <;> (cases mfind ev.G fs.hp x m <;> rfl)
@[simp] theorem Ds_nil : evDs ev .nil fs = .ok [] fs := by rw [evDs]
@[simp] theorem Ds_cons (k v : E) (ds : Ds) : evDs ev (.cons k v ds) fs = bI (evE ev k fs) (k := ⟨fun x fs => bI (evE ev v fs) (k := ⟨fun y fs => bI (evDs ev ds fs) (k := ⟨fun r fs => oI (keyOf x) (k := ⟨fun j => .ok ((j, y) :: r) fs⟩) (n := ⟨fun _ => .no⟩)⟩)⟩)⟩) := by
  rw [evDs]
  show R.bind _ _ = R.bind _ _
  congr 1
  funext x fs
  show R.bind _ _ = R.bind _ _
  congr 1
  funext y fs
  show R.bind _ _ = R.bind _ _
  congr 1
  funext r fs
  dsimp only [ko_go] <;> (cases keyOf x <;> rfl)
def tvR (x : PV) (fs : FS) : R FS Bool := match x with
  | .bl k => .ok k fs
  | _ => .no
@[simp] theorem tvR_b (b : Bool) : tvR (.bl b) fs = .ok b fs := nr rfl
@[simp] theorem T_v (e : E) : evT ev (.v e) fs = bI (evE ev e fs) (k := ⟨tvR⟩) := by rw [evT]; rfl
@[simp] theorem T_cmp (o : CO) (a b : E) : evT ev (.cmp o a b) fs = bI (evE ev a fs) (k := ⟨fun x fs => bI (evE ev b fs) (k := ⟨fun y fs => .opt fs (evCmp o fs.hp x y)⟩)⟩) := by rw [evT]; rfl
@[simp] theorem T_chn (o o' : CO) (a b c : E) : evT ev (.chn o o' a b c) fs = bI (evE ev a fs) (k := ⟨fun x fs => bI (evE ev b fs) (k := ⟨fun y fs => oI (evCmp o fs.hp x y) (k := ⟨fun k => bF k (x := ⟨fun _ => bI (evE ev c fs) (k := ⟨fun z fs => .opt fs (evCmp o' fs.hp y z)⟩)⟩) (y := ⟨fun _ => .ok false fs⟩)⟩) (n := ⟨fun _ => .no⟩)⟩)⟩) := by
  rw [evT]
  show R.bind _ _ = R.bind _ _
  congr 1
  funext x fs
  show R.bind _ _ = R.bind _ _
  congr 1
  funext y fs
  dsimp only [ko_go]
  cases evCmp o fs.hp x y with
  | none => rfl
  | some k => cases k <;> rfl
@[simp] theorem T_and (a b : T) : evT ev (.and_ a b) fs = bI (evT ev a fs) (k := ⟨fun k fs => bF k (x := ⟨fun _ => evT ev b fs⟩) (y := ⟨fun _ => .ok false fs⟩)⟩) := by rw [evT]; rfl
@[simp] theorem T_or (a b : T) : evT ev (.or_ a b) fs = bI (evT ev a fs) (k := ⟨fun k fs => bF k (x := ⟨fun _ => .ok true fs⟩) (y := ⟨fun _ => evT ev b fs⟩)⟩) := by rw [evT]; rfl
@[simp] theorem T_not (a : T) : evT ev (.not_ a) fs = bI (evT ev a fs) (k := ⟨fun k fs => .ok (!k) fs⟩) := by rw [evT]; rfl
@[simp] theorem Ts_nil : evTs ev .nil fs = .ok true fs := by rw [evTs]
@[simp] theorem Ts_cons (t : T) (ts : Ts) : evTs ev (.cons t ts) fs = bI (evT ev t fs) (k := ⟨fun k fs => bF k (x := ⟨fun _ => evTs ev ts fs⟩) (y := ⟨fun _ => .ok false fs⟩)⟩) := by rw [evTs]; rfl
@[simp] theorem I_v (a : E) : evI ev (.v a) fs = bI (evE ev a fs) (k := ⟨fun x fs => .opt fs (asIt x)⟩) := by rw [evI]; rfl
/-- a number that the kernel doesn't reckon with -/
theorem bigEx : ∃ z : Int, z = 2 ^ 62 := ⟨_, rfl⟩
noncomputable def big : Int := Classical.choose bigEx
theorem big_eq : big = 2 ^ 62 := Classical.choose_spec bigEx
noncomputable def rng1R (x : PV) (fs : FS) : R FS (List PV) := match x with
    | .int n => if -big ≤ n ∧ n < big then .ok (range0 n.toNat 0) fs else .no
    | _ => .no
@[simp] theorem I_rng1 (a : E) : evI ev (.rng1 a) fs = bI (evE ev a fs) (k := ⟨rng1R⟩) := by
  rw [evI]
  show R.bind _ _ = R.bind _ _
  congr 1
  funext x fs
  dsimp only [ko_go]
  cases x with
  | int n =>
    show (if -(2 ^ 62) ≤ n ∧ n < 2 ^ 62 then _ else _) = (if -big ≤ n ∧ n < big then _ else _)
    rw [big_eq]
  | _ => rfl
theorem rng1R_i {n : Int} (h : -(2 ^ 62) ≤ n ∧ n < 2 ^ 62) : rng1R (.int n) fs = .ok (range0 n.toNat 0) fs := if_pos (by rw [big_eq]; exact h)
noncomputable def rng2R (x y : PV) (fs : FS) : R FS (List PV) := match x, y with
    | .int i, .int j => if -big ≤ i ∧ i < big ∧ -big ≤ j ∧ j < big then .ok (range0 (j - i).toNat i) fs else .no
    | _, _ => .no
@[simp] theorem I_rng2 (a b : E) : evI ev (.rng2 a b) fs = bI (evE ev a fs) (k := ⟨fun x fs => bI (evE ev b fs) (k := ⟨fun y fs => rng2R x y fs⟩)⟩) := by
  rw [evI]
  show R.bind _ _ = R.bind _ _
  congr 1
  funext x fs
  show R.bind _ _ = R.bind _ _
  congr 1
  funext y fs
  dsimp only [ko_go]
  cases x with
  | int i => cases y with
    | int j =>
      show (if -(2 ^ 62) ≤ i ∧ i < 2 ^ 62 ∧ -(2 ^ 62) ≤ j ∧ j < 2 ^ 62 then _ else _) = (if -big ≤ i ∧ i < big ∧ -big ≤ j ∧ j < big then _ else _)
      rw [big_eq]
    | _ => rfl
  | _ => cases y <;> rfl
@[simp] theorem I_rev (a : E) : evI ev (.rev a) fs = bI (evE ev a fs) (k := ⟨fun x fs => .opt fs ((asRv x).map List.reverse)⟩) := by rw [evI]; rfl
end
class Ks where go : FS → R FS Fl
def seqS (r : R FS Fl) [k : Ks] : R FS Fl := match r with
  | .ok .nx fs => k.go fs
  | r => r
@[simp] theorem seqS_nx (fs : FS) (f : FS → R FS Fl) : @seqS (.ok .nx fs) ⟨f⟩ = f fs := nr rfl
@[simp] theorem seqS_rt (v : PV) (fs : FS) (k : Ks) : @seqS (.ok (.rt v) fs) k = .ok (.rt v) fs := nr rfl
@[simp] theorem seqS_bk (fs : FS) (k : Ks) : @seqS (.ok .bk fs) k = .ok .bk fs := nr rfl
@[simp] theorem seqS_ct (fs : FS) (k : Ks) : @seqS (.ok .ct fs) k = .ok .ct fs := nr rfl
@[simp] theorem seqS_ex (c : Nat) (vs : List PV) (fs : FS) (k : Ks) : @seqS (.ex c vs fs) k = .ex c vs fs := nr rfl
@[simp] theorem seqS_no (k : Ks) : @seqS .no k = .no := nr rfl
section
variable {ev : Ev} {fs : FS}
@[simp] theorem Ss_nil : evSs ev .nil fs = .ok .nx fs := by rw [evSs]
@[simp] theorem Ss_cons (s : S) (ss : Ss) : evSs ev (.cons s ss) fs = seqS (evS ev s fs) (k := ⟨fun fs => evSs ev ss fs⟩) := by rw [evSs]; rfl
@[simp] theorem S_ex (e : E) : evS ev (.ex e) fs = bI (evE ev e fs) (k := ⟨fun _ fs => .ok .nx fs⟩) := by rw [evS]; rfl
@[simp] theorem S_set (i : Nat) (e : E) : evS ev (.set i e) fs = bI (evE ev e fs) (k := ⟨fun v fs => .ok .nx (fs.set i v)⟩) := by rw [evS]; rfl
@[simp] theorem S_setl (i : Nat) (l : LE) : evS ev (.setl i l) fs = bI (evL ev l fs) (k := ⟨fun xs fs => .ok .nx (putS fs i (.lst xs))⟩) := by rw [evS]; rfl
@[simp] theorem S_setd (i : Nat) (l : DE) : evS ev (.setd i l) fs = bI (evD ev l fs) (k := ⟨fun xs fs => .ok .nx (putS fs i (.dic xs))⟩) := by rw [evS]; rfl
def unpR (is : List Nat) (v : PV) (fs : FS) : R FS Fl := match v with
    | .tup vs => match setAll is vs fs with
      | some fs => .ok .nx fs
      | none => .no
    | _ => .no
@[simp] theorem unpR_t (is : List Nat) (vs : List PV) : unpR is (.tup vs) fs = oI (setAll is vs fs) (k := ⟨fun fs => .ok .nx fs⟩) (n := ⟨fun _ => .no⟩) := by
  unfold unpR
  show (match setAll is vs fs with
      | some fs => R.ok Fl.nx fs
      | none => .no) = _
  cases setAll is vs fs <;> rfl
@[simp] theorem S_unp (is : List Nat) (e : E) : evS ev (.unp is e) fs = bI (evE ev e fs) (k := ⟨fun v fs => unpR is v fs⟩) := by rw [evS]; rfl
@[simp] theorem S_par2 (i j : Nat) (a b : E) : evS ev (.par2 i j a b) fs = bI (evE ev a fs) (k := ⟨fun x fs => bI (evE ev b fs) (k := ⟨fun y fs => .ok .nx ((fs.set i x).set j y)⟩)⟩) := by rw [evS]; rfl
@[simp] theorem S_setf (a : E) (k : Nat) (e : E) : evS ev (.setf a k e) fs = bI (evE ev e fs) (k := ⟨fun y fs => bI (evE ev a fs) (k := ⟨fun x fs => putF' ev.G x k y fs⟩)⟩) := by rw [evS]; rfl
@[simp] theorem S_setr (k : Nat) (e : E) : evS ev (.setr k e) fs = bI (evE ev e fs) (k := ⟨fun y fs => putR ev.G k y fs⟩) := by rw [evS]; rfl
@[simp] theorem S_seti (a b e : E) : evS ev (.seti a b e) fs = bI (evE ev e fs) (k := ⟨fun v fs => bI (evE ev a fs) (k := ⟨fun x fs => bI (evE ev b fs) (k := ⟨fun y fs => putI x y v fs⟩)⟩)⟩) := by rw [evS]; rfl
@[simp] theorem S_seto (i : Nat) (b e : E) : evS ev (.seto i b e) fs = bI (evE ev e fs) (k := ⟨fun v fs => bF (slOwn fs i) (x := ⟨fun _ => bI (evE ev b fs) (k := ⟨fun y fs => putJ i y v fs⟩)⟩) (y := ⟨fun _ => .no⟩)⟩) := by
  rw [evS]
  show R.bind _ _ = R.bind _ _
  congr 1
@[simp] theorem S_aug (i : Nat) (o : BO) (e : E) : evS ev (.aug i o e) fs = oI (fs.get i) (k := ⟨fun x => bI (evE ev e fs) (k := ⟨fun y fs => oI (evAug o x y) (k := ⟨fun z => .ok .nx (fs.set i z)⟩) (n := ⟨fun _ => .no⟩)⟩)⟩) (n := ⟨fun _ => .no⟩) := by
  rw [evS]
  cases fs.get i with
  | none => rfl
  | some x =>
    show R.bind _ _ = R.bind _ _
    congr 1
    funext y fs
    dsimp only [ko_go]
    show (match evAug o x y with
        | some z => R.ok Fl.nx (fs.set i z)
        | none => .no) = _
    cases evAug o x y <;> rfl
@[simp] theorem S_augf (a : E) (k : Nat) (o : BO) (e : E) : evS ev (.augf a k o e) fs = bI (evE ev a fs) (k := ⟨fun x fs => oI (fldV ev.G fs.hp x k) (k := ⟨fun v => bI (evE ev e fs) (k := ⟨fun y fs1 => pif (clOf fs1.hp x = clOf fs.hp x) (x := ⟨fun _ => oI (evAug o v y) (k := ⟨fun z => putF' ev.G x k z fs1⟩) (n := ⟨fun _ => .no⟩)⟩) (y := ⟨fun _ => .no⟩)⟩)⟩) (n := ⟨fun _ => .no⟩)⟩) := by
  rw [evS]
  show R.bind _ _ = R.bind _ _
  congr 1
  funext x fs
  dsimp only [ko_go]
  cases fldV ev.G fs.hp x k with
  | none => rfl
  | some v =>
    show R.bind _ _ = R.bind _ _
    congr 1
    funext y fs1
    dsimp only [ko_go]
    show (if clOf fs1.hp x = clOf fs.hp x then _ else _) = (if clOf fs1.hp x = clOf fs.hp x then _ else _)
    congr 1
    cases evAug o v y <;> rfl
@[simp] theorem S_augi (a b : E) (o : BO) (e : E) : evS ev (.augi a b o e) fs = bI (evE ev a fs) (k := ⟨fun x fs => bI (evE ev b fs) (k := ⟨fun i fs => oI (evIx fs.hp x i) (k := ⟨fun v => bI (evE ev e fs) (k := ⟨fun y fs => oI (evAug o v y) (k := ⟨fun z => putI x i z fs⟩) (n := ⟨fun _ => .no⟩)⟩)⟩) (n := ⟨fun _ => .no⟩)⟩)⟩) := by
  rw [evS]
  show R.bind _ _ = R.bind _ _
  congr 1
  funext x fs
  show R.bind _ _ = R.bind _ _
  congr 1
  funext i fs
  dsimp only [ko_go]
  cases evIx fs.hp x i with
  | none => rfl
  | some v =>
    show R.bind _ _ = R.bind _ _
    congr 1
    funext y fs1
    dsimp only [ko_go] <;> (cases evAug o v y <;> rfl)
@[simp] theorem S_augo (j : Nat) (b : E) (o : BO) (e : E) : evS ev (.augo j b o e) fs = bF (slOwn fs j) (x := ⟨fun _ => bI (evE ev b fs) (k := ⟨fun i fs => oI (ownI j i fs) (k := ⟨fun v => bI (evE ev e fs) (k := ⟨fun y fs => oI (evAug o v y) (k := ⟨fun z => putJD j i z fs⟩) (n := ⟨fun _ => .no⟩)⟩)⟩) (n := ⟨fun _ => .no⟩)⟩)⟩) (y := ⟨fun _ => .no⟩) := by
  rw [evS]
  cases slOwn fs j with
  | false => rfl
  | true =>
    show R.bind _ _ = R.bind _ _
    congr 1
    funext i fs
    dsimp only [ko_go]
    cases ownI j i fs with
    | none => rfl
    | some v =>
      show R.bind _ _ = R.bind _ _
      congr 1
      funext y fs1
      dsimp only [ko_go] <;> (cases evAug o v y <;> rfl)
@[simp] theorem S_ite (t : T) (x y : Ss) : evS ev (.ite t x y) fs = bI (evT ev t fs) (k := ⟨fun k fs => bF k (x := ⟨fun _ => evSs ev x fs⟩) (y := ⟨fun _ => evSs ev y fs⟩)⟩) := by rw [evS]; rfl
@[simp] theorem S_whl (t : T) (x : Ss) : evS ev (.whl t x) fs = whlN (evT ev t) (evSs ev x) ev.wf fs := by rw [evS]
def forB (ev : Ev) (tg : Tg) (x : Ss) (v : PV) (f : FS) : R FS Fl := match asg tg v f with
    | some f => evSs ev x f
    | none => .no
@[simp] theorem forB_eq (tg : Tg) (x : Ss) (v : PV) : forB ev tg x v fs = oI (asg tg v fs) (k := ⟨fun f => evSs ev x f⟩) (n := ⟨fun _ => .no⟩) := by
  unfold forB
  cases asg tg v fs <;> rfl
@[simp] theorem S_for (tg : Tg) (it : IE) (x : Ss) : evS ev (.for_ tg it x) fs = bI (evI ev it fs) (k := ⟨fun xs fs => forN (forB ev tg x) xs fs⟩) := by rw [evS]; rfl
@[simp] theorem S_ret (e : E) : evS ev (.ret e) fs = bI (evE ev e fs) (k := ⟨fun v fs => .ok (.rt v) fs⟩) := by rw [evS]; rfl
@[simp] theorem S_retl (l : LE) : evS ev (.retl l) fs = bI (evL ev l fs) (k := ⟨fun v fs => .ok (.rt (.lst v)) fs⟩) := by rw [evS]; rfl
@[simp] theorem S_retd (l : DE) : evS ev (.retd l) fs = bI (evD ev l fs) (k := ⟨fun kvs fs => .ok (.rt (.dic (kvs.map (·.1)) (kvs.map (·.2)))) fs⟩) := by rw [evS]; rfl
@[simp] theorem S_reto (i : Nat) : evS ev (.reto i) fs = bI (frzS fs i) (k := ⟨fun v fs => .ok (.rt v) fs⟩) := by rw [evS]; rfl
@[simp] theorem S_retn : evS ev .retn fs = .ok (.rt .non) fs := by rw [evS]
@[simp] theorem S_brk : evS ev .brk fs = .ok .bk fs := by rw [evS]
@[simp] theorem S_cnt : evS ev .cnt fs = .ok .ct fs := by rw [evS]
@[simp] theorem S_pas : evS ev .pas fs = .ok .nx fs := by rw [evS]
@[simp] theorem S_rse (c : Nat) (es : Es) : evS ev (.rse c es) fs = bI (evEs ev es fs) (k := ⟨fun vs fs => oI (ev.G.cls c) (k := ⟨fun cl => .ex c (if cl.flds.length = 0 then [] else vs) fs⟩) (n := ⟨fun _ => .no⟩)⟩) := by
  rw [evS]
  show R.bind _ _ = R.bind _ _
  congr 1
  funext vs fs
  dsimp only [ko_go] <;> (cases ev.G.cls c <;> rfl)
def catchR (G : Tab) (hs : List Hd) (r : R FS Fl) : R FS Fl := match r with
    | .ex c vs fs => match caught G c hs with
      | some (some (none, hx)) => runHx fs hx
      | some none => .ex c vs fs
      | _ => .no
    | r => r
@[simp] theorem catchR_ok (G : Tab) (hs : List Hd) (f : Fl) : catchR G hs (.ok f fs) = .ok f fs := nr rfl
@[simp] theorem catchR_ex (G : Tab) (hs : List Hd) (c : Nat) (vs : List PV) : catchR G hs (.ex c vs fs) = (match caught G c hs with
      | some (some (none, hx)) => runHx fs hx
      | some none => .ex c vs fs
      | _ => .no) := rfl
@[simp] theorem S_try (x : Ss) (hs : List Hd) : evS ev (.try_ x hs) fs = catchR ev.G hs (evSs ev x fs) := by rw [evS]; rfl
end
def endN (r : R FS Fl) : R Hb PV := match r with
      | .ok .nx fs => .ok .non fs.hp
      | .ok (.rt v) fs => .ok v fs.hp
      | .ok .bk _ => .no
      | .ok .ct _ => .no
      | .ex c ws fs => .ex c ws fs.hp
      | .no => .no
@[simp] theorem endN_nx (fs : FS) : endN (.ok .nx fs) = .ok .non fs.hp := nr rfl
@[simp] theorem endN_rt (v : PV) (fs : FS) : endN (.ok (.rt v) fs) = .ok v fs.hp := nr rfl
@[simp] theorem endN_ex (c : Nat) (ws : List PV) (fs : FS) : endN (.ex c ws fs) = .ex c ws fs.hp := nr rfl
def endI (ev : Ev) (c : Nat) (r : R FS Fl) : R Hb PV := match r with
      | .ok .nx fs => match fs.sl[0]?, ev.G.cls c with
        | some (Sl.own d fl), some cl => if d = c ∧ fl.map (fun q : Nat × PV => q.1) = cl.flds then .ok (.ins c (fl.map (fun q : Nat × PV => q.2))) fs.hp else .no
        | _, _ => .no
      | .ok _ _ => .no
      | .ex c ws fs => .ex c ws fs.hp
      | .no => .no
@[simp] theorem endI_ex (ev : Ev) (d c : Nat) (ws : List PV) (fs : FS) : endI ev d (.ex c ws fs) = .ex c ws fs.hp := nr rfl
theorem endI_nx (ev : Ev) (c : Nat) (cl : Cl) (fl : List (Nat × PV)) (r : List Sl) (hp : Hb) (h : ev.G.cls c = some cl) (h2 : fl.map (fun q : Nat × PV => q.1) = cl.flds) : endI ev c (.ok .nx ⟨.own c fl :: r, hp⟩) = .ok (.ins c (fl.map (fun q : Nat × PV => q.2))) hp := by
  unfold endI
  show (match some (Sl.own c fl), ev.G.cls c with
        | some (Sl.own d fl), some cl => if d = c ∧ fl.map (fun q : Nat × PV => q.1) = cl.flds then R.ok (PV.ins c (fl.map (fun q : Nat × PV => q.2))) hp else .no
        | _, _ => .no) = _
  rw [h]
  exact if_pos ⟨rfl, h2⟩
theorem body_n (ev : Ev) (fd : Fd) (vs : List PV) (h : Hb) (hk : fd.kind = none) (hl : vs.length = fd.np) : body ev fd vs h = endN (evSs ev fd.body ⟨vs.map .val ++ List.replicate (fd.ns - fd.np) .un, h⟩) := by
  unfold body
  rw [hk]
  exact if_pos hl
theorem body_i (ev : Ev) (fd : Fd) (c : Nat) (vs : List PV) (h : Hb) (hk : fd.kind = some c) (hl : vs.length = fd.np) : body ev fd vs h = endI ev c (evSs ev fd.body ⟨.own c [] :: (vs.map .val ++ List.replicate (fd.ns - 1 - fd.np) .un), h⟩) := by
  unfold body
  rw [hk]
  exact if_pos hl
end U
namespace U
open PySem L2
section
variable {h : Hb} {i j k : Int} {a b c : Str}
theorem cps_ofString (x : String) : (Str.ofString x).cps.toList = x.toList.map Char.toNat := by
  show (cpsOfBytes 0 0 x.toByteArray.data.toList).toArray.toList = _
  rw [List.toList_toArray, cpsOfBytes_string]
theorem ofString_inj {x y : String} : Str.ofString x = Str.ofString y ↔ x = y := by
  refine ⟨fun e => ?_, fun e => by rw [e]⟩
  have h : (Str.ofString x).cps.toList = (Str.ofString y).cps.toList := by rw [e]
  rw [cps_ofString, cps_ofString] at h
  have : x.toList = y.toList := by
    refine (List.map_inj_right (fun a b q => ?_)).mp h
    exact Char.ext (UInt32.toNat_inj.mp q)
  exact String.toList_inj.mp this
@[simp] theorem ofString_eq {x y : String} : (Str.ofString x = Str.ofString y) = (x = y) := propext ofString_inj
@[simp] theorem strOk_lit (x : String) : PyData.strOk (Str.ofString x) = true := by
  unfold PyData.strOk
  rw [← Array.all_toList, cps_ofString, List.all_map, List.all_eq_true]
  intro c _
  have h := c.valid
  simp only [UInt32.isValidChar, Nat.isValidChar] at h
  show decide (c.toNat < 0x110000) = true
  have e : c.toNat = c.val.toNat := rfl
  rw [e]
  exact decide_eq_true (by omega)
@[simp] theorem plain_non : plain .non = true := by decide
@[simp] theorem plain_bl (b : Bool) : plain (.bl b) = true := by cases b <;> decide
@[simp] theorem plain_int : plain (.int i) = true := nr rfl
@[simp] theorem plain_str : plain (.str a) = PyData.strOk a := Bool.and_true _
theorem evEq_plain {x y : PV} (hx : asD h x = none) (px : plain (thaw h x) = true) (py : plain (thaw h y) = true) : evEq h x y = some (eqv (thaw h x) (thaw h y)) := by
  unfold evEq
  rw [hx]
  dsimp only
  rw [px, py]
  rfl
@[simp] theorem eq_ii : evCmp .eq h (.int i) (.int j) = some (decide (i = j)) := by
  show evEq h (.int i) (.int j) = _
  rw [evEq_plain (h := h) (x := .int i) (y := .int j) rfl (show plain (.int i) = true from rfl) (show plain (.int j) = true from rfl)]
  rfl
@[simp] theorem eq_ss (ha : PyData.strOk a = true) (hb : PyData.strOk b = true) : evCmp .eq h (.str a) (.str b) = some (decide (a = b)) := by
  show evEq h (.str a) (.str b) = _
  rw [evEq_plain (h := h) (x := .str a) (y := .str b) rfl (show plain (.str a) = true by rw [plain_str, ha]) (show plain (.str b) = true by rw [plain_str, hb])]
  rfl
@[simp] theorem ne_ii : evCmp .ne h (.int i) (.int j) = some (!decide (i = j)) := by
  show (evCmp .eq h (.int i) (.int j)).map (!·) = _
  rw [eq_ii]; rfl
@[simp] theorem ne_ss (ha : PyData.strOk a = true) (hb : PyData.strOk b = true) : evCmp .ne h (.str a) (.str b) = some (!decide (a = b)) := by
  show (evCmp .eq h (.str a) (.str b)).map (!·) = _
  rw [eq_ss ha hb]; rfl
@[simp] theorem ne_sn (ha : PyData.strOk a = true) : evCmp .ne h (.str a) .non = some true := by
  show (evEq h (.str a) .non).map (!·) = _
  rw [evEq_plain (h := h) (x := .str a) (y := .non) rfl (show plain (.str a) = true by rw [plain_str, ha]) (show plain .non = true by decide)]
  rfl
@[simp] theorem lt_ii : evCmp .lt h (.int i) (.int j) = some (decide (i < j)) := nr rfl
@[simp] theorem le_ii : evCmp .le h (.int i) (.int j) = some (decide (i ≤ j)) := nr rfl
@[simp] theorem gt_ii : evCmp .gt h (.int i) (.int j) = some (decide (j < i)) := nr rfl
@[simp] theorem ge_ii : evCmp .ge h (.int i) (.int j) = some (decide (j ≤ i)) := nr rfl
@[simp] theorem nin_eq (x y : PV) : evCmp .nin h x y = (evIn h x y).map (!·) := nr rfl
@[simp] theorem in_eq (x y : PV) : evCmp .in_ h x y = evIn h x y := nr rfl
@[simp] theorem eqv_ss : eqv (.str a) (.str b) = decide (a = b) := nr rfl
@[simp] theorem eqv_ii : eqv (.int i) (.int j) = decide (i = j) := nr rfl
/-- texts in a tuple or list of texts -/
theorem in_tup {x : PV} {xs : List PV} (hx : flat x = true) (h2 : xs.all flat = true) : evIn h x (.tup xs) = some (inL x xs) := by
  cases x with
  | str s =>
    show (if flat (.str s) && xs.all flat then some (inL (.str s) xs) else none) = _
    rw [h2]; rfl
  | int s =>
    show (if flat (.int s) && xs.all flat then some (inL (.int s) xs) else none) = _
    rw [h2]; rfl
  | non =>
    show (if flat .non && xs.all flat then some (inL .non xs) else none) = _
    rw [h2]; rfl
  | bl s =>
    show (if flat (.bl s) && xs.all flat then some (inL (.bl s) xs) else none) = _
    rw [h2]; rfl
  | _ => cases hx
@[simp] theorem in_kdc (ks : List Key) (vs : List PV) : evIn h (.str a) (.kdc ks vs) = some (dGet (zipD ks vs) (.inr a)).isSome := nr rfl
@[simp] theorem in_dic (ks : List Key) (vs : List PV) : evIn h (.str a) (.dic ks vs) = some (dGet (zipD ks vs) (.inr a)).isSome := nr rfl
@[simp] theorem evIx_tup (xs : List PV) : evIx h (.tup xs) (.int i) = atI xs i := nr rfl
@[simp] theorem evIx_lst (xs : List PV) : evIx h (.lst xs) (.int i) = atI xs i := nr rfl
@[simp] theorem evIx_kdc (ks : List Key) (vs : List PV) : evIx h (.kdc ks vs) (.str a) = dGet (zipD ks vs) (.inr a) := nr rfl
@[simp] theorem evIx_dic (ks : List Key) (vs : List PV) : evIx h (.dic ks vs) (.str a) = dGet (zipD ks vs) (.inr a) := nr rfl
theorem atI_nat {α : Type} (xs : List α) (n : Nat) : atI xs (n : Int) = xs[n]? := by
  unfold atI ixN
  by_cases q : n < xs.length
  · have h1 : (0 : Int) ≤ (n : Int) := by omega
    have h2 : (n : Int) < (xs.length : Int) := by omega
    rw [if_pos h1, if_pos h2]
    rfl
  · have h1 : (0 : Int) ≤ (n : Int) := by omega
    have h2 : ¬ (n : Int) < (xs.length : Int) := by omega
    rw [if_pos h1, if_neg h2, List.getElem?_eq_none (by omega)]
    rfl
@[simp] theorem atI_0 {α : Type} (xs : List α) : atI xs 0 = xs[0]? := atI_nat xs 0
@[simp] theorem atI_1 {α : Type} (xs : List α) : atI xs 1 = xs[1]? := atI_nat xs 1
@[simp] theorem atI_2 {α : Type} (xs : List α) : atI xs 2 = xs[2]? := atI_nat xs 2
@[simp] theorem atI_3 {α : Type} (xs : List α) : atI xs 3 = xs[3]? := atI_nat xs 3
@[simp] theorem atI_4 {α : Type} (xs : List α) : atI xs 4 = xs[4]? := atI_nat xs 4
@[simp] theorem atI_5 {α : Type} (xs : List α) : atI xs 5 = xs[5]? := atI_nat xs 5
@[simp] theorem atI_6 {α : Type} (xs : List α) : atI xs 6 = xs[6]? := atI_nat xs 6
@[simp] theorem atI_7 {α : Type} (xs : List α) : atI xs 7 = xs[7]? := atI_nat xs 7
theorem atI_last {α : Type} (xs : List α) (x : α) : atI (xs ++ [x]) (-1) = some x := by
  unfold atI ixN
  have h1 : ¬ (0 : Int) ≤ -1 := by omega
  have h2 : -(((xs ++ [x]).length : Nat) : Int) ≤ -1 := by simp only [List.length_append, List.length_cons, List.length_nil]; omega
  rw [if_neg h1, if_pos h2]
  have h3 : ((-1 : Int) + (((xs ++ [x]).length : Nat) : Int)).toNat = xs.length := by simp only [List.length_append, List.length_cons, List.length_nil]; omega
  show (xs ++ [x])[((-1 : Int) + (((xs ++ [x]).length : Nat) : Int)).toNat]? = some x
  rw [h3]
  simp
@[simp] theorem bin_add_ii : evBin .add (.int i) (.int j) = some (.int (i + j)) := nr rfl
@[simp] theorem bin_sub_ii : evBin .sub (.int i) (.int j) = some (.int (i - j)) := nr rfl
theorem bin_mul_ii (q : (-(2 ^ 64) < i ∧ i < 2 ^ 64) ∨ (-(2 ^ 64) < j ∧ j < 2 ^ 64)) : evBin .mul (.int i) (.int j) = some (.int (i * j)) := if_pos q
theorem bin_fdiv_ii (q : 0 < j ∧ j < 1073741824) : evBin .fdiv (.int i) (.int j) = some (.int (i / j)) := if_pos q
theorem bin_mod_ii (q : 0 < j) : evBin .mod (.int i) (.int j) = some (.int (i % j)) := if_pos q
theorem bin_add_tt {xs ys : List PV} (q : xs.length + ys.length ≤ sizeLine) : evBin .add (.tup xs) (.tup ys) = some (.tup (xs ++ ys)) := if_pos q
theorem bin_add_ss (q : a.length + b.length ≤ sizeLine) : evBin .add (.str a) (.str b) = some (.str (a ++ b)) := if_pos q
@[simp] theorem aug_add_ii : evAug .add (.int i) (.int j) = some (.int (i + j)) := nr rfl
@[simp] theorem aug_sub_ii : evAug .sub (.int i) (.int j) = some (.int (i - j)) := nr rfl
@[simp] theorem len_tup (xs : List PV) : evBF .len h [.tup xs] = some (.int xs.length) := nr rfl
@[simp] theorem len_lst (xs : List PV) : evBF .len h [.lst xs] = some (.int xs.length) := nr rfl
theorem len_str (q : a.length ≤ sizeLine) : evBF .len h [.str a] = some (.int a.length) := if_pos q
theorem len_obj {n : Nat} {xs : List PV} (e : h[n]? = some (.lst xs)) : evBF .len h [.obj n] = some (.int xs.length) := by
  have : asS h (.obj n) = some xs := by
    show asL h (.obj n) = some xs
    unfold asL
    dsimp only
    rw [e]
  show (asS h (.obj n)).map (fun xs => PV.int xs.length) = _
  rw [this]
  rfl
@[simp] theorem max2_ii : evBF .max2 h [.int i, .int j] = some (.int (max i j)) := by
  have : (if j > i then j else i) = max i j := by split <;> omega
  rw [← this]
  rfl
@[simp] theorem min2_ii : evBF .min2 h [.int i, .int j] = some (.int (min i j)) := by
  have : (if j < i then j else i) = min i j := by split <;> omega
  rw [← this]
  rfl
@[simp] theorem max3_ii : evBF .max3 h [.int i, .int j, .int k] = some (.int (max (max i j) k)) := by
  have e1 : (if j > i then j else i) = max i j := by split <;> omega
  have e2 : (if k > max i j then k else max i j) = max (max i j) k := by split <;> omega
  rw [← e2, ← e1]
  rfl
@[simp] theorem abs_i : evBF .abs h [.int i] = some (.int (if i < 0 then -i else i)) := nr rfl
@[simp] theorem int1_i : evBF .int1 h [.int i] = some (.int i) := nr rfl
@[simp] theorem int1_b (b : Bool) : evBF .int1 h [.bl b] = some (.int (if b then 1 else 0)) := nr rfl
@[simp] theorem all_lst (xs : List PV) : evBF .all h [.lst xs] = (allB xs).map .bl := nr rfl
@[simp] theorem any_lst (xs : List PV) : evBF .any h [.lst xs] = (anyB xs).map .bl := nr rfl
@[simp] theorem sum_lst (xs : List PV) : evBF .sum h [.lst xs] = (sumI xs).map .int := nr rfl
theorem ext_l {xs ys : List PV} (q : xs.length + ys.length ≤ sizeLine) : evMM .extend h xs [.lst ys] = some (.non, xs ++ ys) := if_pos q
theorem app_l {xs : List PV} {y : PV} (q : xs.length < sizeLine) : evMM .append h xs [y] = some (.non, xs ++ [y]) := if_pos q
@[simp] theorem asIt_str : asIt (.str a) = some (chars a.cps.toList) := nr rfl
@[simp] theorem asIt_tup (xs : List PV) : asIt (.tup xs) = some xs := nr rfl
@[simp] theorem asIt_lst (xs : List PV) : asIt (.lst xs) = some xs := nr rfl
@[simp] theorem asRv_tup (xs : List PV) : asRv (.tup xs) = some xs := nr rfl
@[simp] theorem asD_dic (ks : List Key) (vs : List PV) : asD h (.dic ks vs) = some (zipD ks vs) := nr rfl
@[simp] theorem asL_lst (xs : List PV) : asL h (.lst xs) = some xs := nr rfl
@[simp] theorem asOf_lst (xs : List PV) : asOf h (.lst xs) = some xs := nr rfl
@[simp] theorem asOf_dic (ks : List Key) (vs : List PV) : asOf h (.dic ks vs) = some ((zipD ks vs).map fun kv => keyV kv.1) := nr rfl
@[simp] theorem keyOf_s : keyOf (.str a) = some (.inr a) := nr rfl
@[simp] theorem keyOf_i : keyOf (.int i) = some (.inl i) := nr rfl
@[simp] theorem isAny_nil (G : Tab) (x : PV) : isAny G h x [] = some false := nr rfl
@[simp] theorem isAny_cons (G : Tab) (x : PV) (t : TyR) (ts : List TyR) : isAny G h x (t :: ts) = oI (isOne G h x t) (k := ⟨fun b => bF b (x := ⟨fun _ => some true⟩) (y := ⟨fun _ => isAny G h x ts⟩)⟩) (n := ⟨fun _ => none⟩) := by
  unfold isAny
  cases e : isOne G h x t with
  | none => rfl
  | some b => cases b <;> first | rfl | (conv => lhs; rw [isAny.eq_def]) <;> rfl
@[simp] theorem asg_n (n : Nat) (v : PV) (fs : FS) : asg (.n n) v fs = some (fs.set n v) := nr rfl
@[simp] theorem asg_t (is : List Nat) (vs : List PV) (fs : FS) : asg (.t is) (.tup vs) fs = setAll is vs fs := nr rfl
@[simp] theorem setAll_nil (fs : FS) : setAll [] [] fs = some fs := nr rfl
@[simp] theorem setAll_cons (i : Nat) (is : List Nat) (v : PV) (vs : List PV) (fs : FS) : setAll (i :: is) (v :: vs) fs = setAll is vs (fs.set i v) := nr rfl
end
end U
namespace U
open PySem L2
@[simp] theorem tf_4 : t_fns 4 = some f_is_name := nr rfl
@[simp] theorem tf_5 : t_fns 5 = some f_is_whole := nr rfl
@[simp] theorem tf_6 : t_fns 6 = some f_need_name := nr rfl
@[simp] theorem tf_7 : t_fns 7 = some f_Term_parts := nr rfl
@[simp] theorem tf_8 : t_fns 8 = some f_Term_rebuilt := nr rfl
@[simp] theorem tf_9 : t_fns 9 = some f_Term_binds := nr rfl
@[simp] theorem tf_10 : t_fns 10 = some f_Term_told := nr rfl
@[simp] theorem tf_12 : t_fns 12 = some f_Term_free := nr rfl
@[simp] theorem tf_19 : t_fns 19 = some f_need_terms := nr rfl
@[simp] theorem tf_20 : t_fns 20 = some f_Name_init := nr rfl
@[simp] theorem tf_21 : t_fns 21 = some f_Name_told := nr rfl
@[simp] theorem tf_23 : t_fns 23 = some f_Name_free := nr rfl
@[simp] theorem tf_25 : t_fns 25 = some f_Number_init := nr rfl
@[simp] theorem tf_26 : t_fns 26 = some f_Number_told := nr rfl
@[simp] theorem tf_28 : t_fns 28 = some f_Maker_init := nr rfl
@[simp] theorem tf_29 : t_fns 29 = some f_Maker_parts := nr rfl
@[simp] theorem tf_30 : t_fns 30 = some f_Maker_rebuilt := nr rfl
@[simp] theorem tf_31 : t_fns 31 = some f_Maker_binds := nr rfl
@[simp] theorem tf_32 : t_fns 32 = some f_Maker_told := nr rfl
@[simp] theorem tf_34 : t_fns 34 = some f_Give_init := nr rfl
@[simp] theorem tf_35 : t_fns 35 = some f_Give_parts := nr rfl
@[simp] theorem tf_36 : t_fns 36 = some f_Give_rebuilt := nr rfl
@[simp] theorem tf_37 : t_fns 37 = some f_Give_told := nr rfl
@[simp] theorem tf_39 : t_fns 39 = some f_Sum_init := nr rfl
@[simp] theorem tf_40 : t_fns 40 = some f_Sum_parts := nr rfl
@[simp] theorem tf_41 : t_fns 41 = some f_Sum_rebuilt := nr rfl
@[simp] theorem tf_42 : t_fns 42 = some f_Sum_told := nr rfl
@[simp] theorem tf_44 : t_fns 44 = some f_Choice_init := nr rfl
@[simp] theorem tf_45 : t_fns 45 = some f_Choice_parts := nr rfl
@[simp] theorem tf_46 : t_fns 46 = some f_Choice_rebuilt := nr rfl
@[simp] theorem tf_47 : t_fns 47 = some f_Choice_told := nr rfl
@[simp] theorem tf_49 : t_fns 49 = some f_Again_init := nr rfl
@[simp] theorem tf_50 : t_fns 50 = some f_Again_parts := nr rfl
@[simp] theorem tf_51 : t_fns 51 = some f_Again_rebuilt := nr rfl
@[simp] theorem tf_52 : t_fns 52 = some f_Again_binds := nr rfl
@[simp] theorem tf_53 : t_fns 53 = some f_Again_told := nr rfl
@[simp] theorem tf_55 : t_fns 55 = some f_must_be_closed := nr rfl
@[simp] theorem tf_72 : t_fns 72 = some f_Late_init := nr rfl
@[simp] theorem tf_73 : t_fns 73 = some f_is_beyond := nr rfl
@[simp] theorem tf_74 : t_fns 74 = some f_measured := nr rfl
@[simp] theorem tf_75 : t_fns 75 = some f_read_back := nr rfl
@[simp] theorem tf_61 : t_fns 61 = some f_term_of := nr rfl
@[simp] theorem tf_62 : t_fns 62 = some f_sum_of := nr rfl
@[simp] theorem tf_80 : t_fns 80 = some f_GivenWait_init := nr rfl
@[simp] theorem tf_81 : t_fns 81 = some f_GivenWait_sort_for := nr rfl
@[simp] theorem tf_82 : t_fns 82 = some f_GivenWait_after := nr rfl
@[simp] theorem tf_83 : t_fns 83 = some f_GivenWait_grown := nr rfl
@[simp] theorem tf_84 : t_fns 84 = some f_GivenWait_around := nr rfl
@[simp] theorem tf_85 : t_fns 85 = some f_OtherWait_init := nr rfl
@[simp] theorem tf_86 : t_fns 86 = some f_OtherWait_sort_for := nr rfl
@[simp] theorem tf_87 : t_fns 87 = some f_OtherWait_after := nr rfl
@[simp] theorem tf_88 : t_fns 88 = some f_OtherWait_grown := nr rfl
@[simp] theorem tf_89 : t_fns 89 = some f_OtherWait_around := nr rfl
@[simp] theorem tf_90 : t_fns 90 = some f_NumberWait_init := nr rfl
@[simp] theorem tf_91 : t_fns 91 = some f_NumberWait_sort_for := nr rfl
@[simp] theorem tf_92 : t_fns 92 = some f_NumberWait_after := nr rfl
@[simp] theorem tf_93 : t_fns 93 = some f_NumberWait_grown := nr rfl
@[simp] theorem tf_94 : t_fns 94 = some f_NumberWait_around := nr rfl
@[simp] theorem tf_95 : t_fns 95 = some f_ChoiceWait_init := nr rfl
@[simp] theorem tf_96 : t_fns 96 = some f_ChoiceWait_sort_for := nr rfl
@[simp] theorem tf_97 : t_fns 97 = some f_ChoiceWait_after := nr rfl
@[simp] theorem tf_98 : t_fns 98 = some f_ChoiceWait_grown := nr rfl
@[simp] theorem tf_99 : t_fns 99 = some f_ChoiceWait_around := nr rfl
@[simp] theorem tf_100 : t_fns 100 = some f_State_init := nr rfl
@[simp] theorem tf_101 : t_fns 101 = some f_State_next_sort := nr rfl
@[simp] theorem tf_102 : t_fns 102 = some f_State_how := nr rfl
@[simp] theorem tf_103 : t_fns 103 = some f_State_step := nr rfl
@[simp] theorem tf_104 : t_fns 104 = some f_State_came := nr rfl
@[simp] theorem tf_105 : t_fns 105 = some f_State_height := nr rfl
@[simp] theorem tf_106 : t_fns 106 = some f_State_shown := nr rfl
@[simp] theorem tf_107 : t_fns 107 = some f_opened := nr rfl
@[simp] theorem tf_108 : t_fns 108 = some f_looked := nr rfl
@[simp] theorem tf_109 : t_fns 109 = some f_turned := nr rfl
@[simp] theorem tf_110 : t_fns 110 = some f_went_on := nr rfl
@[simp] theorem tf_111 : t_fns 111 = some f_first_state := nr rfl
@[simp] theorem tf_112 : t_fns 112 = some f_machine_run := nr rfl
@[simp] theorem tf_116 : t_fns 116 = some f_tally_with := nr rfl
@[simp] theorem tf_219 : t_fns 219 = some f_Bench_init := nr rfl
@[simp] theorem tf_220 : t_fns 220 = some f_Bench_forth := nr rfl
@[simp] theorem tf_221 : t_fns 221 = some f_Bench_is_next := nr rfl
@[simp] theorem tf_222 : t_fns 222 = some f_Bench_back := nr rfl
@[simp] theorem tf_223 : t_fns 223 = some f_Bench_done := nr rfl
@[simp] theorem tf_224 : t_fns 224 = some f_Bench_how := nr rfl
@[simp] theorem tf_225 : t_fns 225 = some f_Bench_came := nr rfl
@[simp] theorem tf_226 : t_fns 226 = some f_Bench_height := nr rfl
@[simp] theorem tf_227 : t_fns 227 = some f_Bench_shown := nr rfl
@[simp] theorem tf_228 : t_fns 228 = some f_Bench_tally := nr rfl
@[simp] theorem tf_229 : t_fns 229 = some f_Bench_mark := nr rfl
@[simp] theorem tf_230 : t_fns 230 = some f_Bench_to := nr rfl
@[simp] theorem tf_231 : t_fns 231 = some f_Bench_marks := nr rfl
@[simp] theorem tf_232 : t_fns 232 = some f_Bench_twin := nr rfl
@[simp] theorem tf_300 : t_fns 300 = some f__law_state := nr rfl
@[simp] theorem tf_301 : t_fns 301 = some f__law_draw := nr rfl
@[simp] theorem tf_302 : t_fns 302 = some f__law_name := nr rfl
@[simp] theorem tf_303 : t_fns 303 = some f__law_number := nr rfl
@[simp] theorem tf_304 : t_fns 304 = some f__law_leaf := nr rfl
@[simp] theorem tf_305 : t_fns 305 = some f__law_any := nr rfl
@[simp] theorem tf_306 : t_fns 306 = some f__law_doubled := nr rfl
@[simp] theorem tf_307 : t_fns 307 = some f__law_term := nr rfl
@[simp] theorem tf_308 : t_fns 308 = some f__law_shown := nr rfl
@[simp] theorem tf_309 : t_fns 309 = some f__law_stands := nr rfl
@[simp] theorem tf_310 : t_fns 310 = some f__law_marks := nr rfl
@[simp] theorem tf_311 : t_fns 311 = some f__law_done := nr rfl
@[simp] theorem tf_312 : t_fns 312 = some f__law_right := nr rfl
@[simp] theorem tf_313 : t_fns 313 = some f_law := nr rfl
@[simp] theorem tc_0 : t_cls 0 = some c_TallyError := nr rfl
@[simp] theorem tc_1 : t_cls 1 = some c_BadTerm := nr rfl
@[simp] theorem tc_2 : t_cls 2 = some c_BadName := nr rfl
@[simp] theorem tc_4 : t_cls 4 = some c_NoStep := nr rfl
@[simp] theorem tc_5 : t_cls 5 = some c_TooGreat := nr rfl
@[simp] theorem tc_8 : t_cls 8 = some c_NoMark := nr rfl
@[simp] theorem tc_14 : t_cls 14 = some c_Term := nr rfl
@[simp] theorem tc_15 : t_cls 15 = some c_Open := nr rfl
@[simp] theorem tc_16 : t_cls 16 = some c_Name := nr rfl
@[simp] theorem tc_17 : t_cls 17 = some c_Number := nr rfl
@[simp] theorem tc_18 : t_cls 18 = some c_Maker := nr rfl
@[simp] theorem tc_19 : t_cls 19 = some c_Give := nr rfl
@[simp] theorem tc_20 : t_cls 20 = some c_Sum := nr rfl
@[simp] theorem tc_21 : t_cls 21 = some c_Choice := nr rfl
@[simp] theorem tc_22 : t_cls 22 = some c_Again := nr rfl
@[simp] theorem tc_23 : t_cls 23 = some c_Late := nr rfl
@[simp] theorem tc_24 : t_cls 24 = some c_Waiting := nr rfl
@[simp] theorem tc_25 : t_cls 25 = some c_GivenWait := nr rfl
@[simp] theorem tc_26 : t_cls 26 = some c_OtherWait := nr rfl
@[simp] theorem tc_27 : t_cls 27 = some c_NumberWait := nr rfl
@[simp] theorem tc_28 : t_cls 28 = some c_ChoiceWait := nr rfl
@[simp] theorem tc_29 : t_cls 29 = some c_State := nr rfl
@[simp] theorem tc_40 : t_cls 40 = some c_Bench := nr rfl
@[simp] theorem tm_14_0 : t_meth 14 0 = some 7 := nr rfl
@[simp] theorem tm_14_1 : t_meth 14 1 = some 8 := nr rfl
@[simp] theorem tm_14_2 : t_meth 14 2 = some 9 := nr rfl
@[simp] theorem tm_14_3 : t_meth 14 3 = some 10 := nr rfl
@[simp] theorem tm_14_5 : t_meth 14 5 = some 12 := nr rfl
@[simp] theorem tm_15_0 : t_meth 15 0 = some 7 := nr rfl
@[simp] theorem tm_15_1 : t_meth 15 1 = some 8 := nr rfl
@[simp] theorem tm_15_2 : t_meth 15 2 = some 9 := nr rfl
@[simp] theorem tm_15_3 : t_meth 15 3 = some 10 := nr rfl
@[simp] theorem tm_15_5 : t_meth 15 5 = some 12 := nr rfl
@[simp] theorem tm_16_0 : t_meth 16 0 = some 7 := nr rfl
@[simp] theorem tm_16_1 : t_meth 16 1 = some 8 := nr rfl
@[simp] theorem tm_16_2 : t_meth 16 2 = some 9 := nr rfl
@[simp] theorem tm_16_3 : t_meth 16 3 = some 21 := nr rfl
@[simp] theorem tm_16_5 : t_meth 16 5 = some 23 := nr rfl
@[simp] theorem tm_17_0 : t_meth 17 0 = some 7 := nr rfl
@[simp] theorem tm_17_1 : t_meth 17 1 = some 8 := nr rfl
@[simp] theorem tm_17_2 : t_meth 17 2 = some 9 := nr rfl
@[simp] theorem tm_17_3 : t_meth 17 3 = some 26 := nr rfl
@[simp] theorem tm_17_5 : t_meth 17 5 = some 12 := nr rfl
@[simp] theorem tm_18_0 : t_meth 18 0 = some 29 := nr rfl
@[simp] theorem tm_18_1 : t_meth 18 1 = some 30 := nr rfl
@[simp] theorem tm_18_2 : t_meth 18 2 = some 31 := nr rfl
@[simp] theorem tm_18_3 : t_meth 18 3 = some 32 := nr rfl
@[simp] theorem tm_18_5 : t_meth 18 5 = some 12 := nr rfl
@[simp] theorem tm_19_0 : t_meth 19 0 = some 35 := nr rfl
@[simp] theorem tm_19_1 : t_meth 19 1 = some 36 := nr rfl
@[simp] theorem tm_19_2 : t_meth 19 2 = some 9 := nr rfl
@[simp] theorem tm_19_3 : t_meth 19 3 = some 37 := nr rfl
@[simp] theorem tm_19_5 : t_meth 19 5 = some 12 := nr rfl
@[simp] theorem tm_20_0 : t_meth 20 0 = some 40 := nr rfl
@[simp] theorem tm_20_1 : t_meth 20 1 = some 41 := nr rfl
@[simp] theorem tm_20_2 : t_meth 20 2 = some 9 := nr rfl
@[simp] theorem tm_20_3 : t_meth 20 3 = some 42 := nr rfl
@[simp] theorem tm_20_5 : t_meth 20 5 = some 12 := nr rfl
@[simp] theorem tm_21_0 : t_meth 21 0 = some 45 := nr rfl
@[simp] theorem tm_21_1 : t_meth 21 1 = some 46 := nr rfl
@[simp] theorem tm_21_2 : t_meth 21 2 = some 9 := nr rfl
@[simp] theorem tm_21_3 : t_meth 21 3 = some 47 := nr rfl
@[simp] theorem tm_21_5 : t_meth 21 5 = some 12 := nr rfl
@[simp] theorem tm_22_0 : t_meth 22 0 = some 50 := nr rfl
@[simp] theorem tm_22_1 : t_meth 22 1 = some 51 := nr rfl
@[simp] theorem tm_22_2 : t_meth 22 2 = some 52 := nr rfl
@[simp] theorem tm_22_3 : t_meth 22 3 = some 53 := nr rfl
@[simp] theorem tm_22_5 : t_meth 22 5 = some 12 := nr rfl
@[simp] theorem tm_25_12 : t_meth 25 12 = some 81 := nr rfl
@[simp] theorem tm_25_13 : t_meth 25 13 = some 82 := nr rfl
@[simp] theorem tm_25_14 : t_meth 25 14 = some 83 := nr rfl
@[simp] theorem tm_25_15 : t_meth 25 15 = some 84 := nr rfl
@[simp] theorem tm_26_12 : t_meth 26 12 = some 86 := nr rfl
@[simp] theorem tm_26_13 : t_meth 26 13 = some 87 := nr rfl
@[simp] theorem tm_26_14 : t_meth 26 14 = some 88 := nr rfl
@[simp] theorem tm_26_15 : t_meth 26 15 = some 89 := nr rfl
@[simp] theorem tm_27_12 : t_meth 27 12 = some 91 := nr rfl
@[simp] theorem tm_27_13 : t_meth 27 13 = some 92 := nr rfl
@[simp] theorem tm_27_14 : t_meth 27 14 = some 93 := nr rfl
@[simp] theorem tm_27_15 : t_meth 27 15 = some 94 := nr rfl
@[simp] theorem tm_28_12 : t_meth 28 12 = some 96 := nr rfl
@[simp] theorem tm_28_13 : t_meth 28 13 = some 97 := nr rfl
@[simp] theorem tm_28_14 : t_meth 28 14 = some 98 := nr rfl
@[simp] theorem tm_28_15 : t_meth 28 15 = some 99 := nr rfl
@[simp] theorem tm_29_16 : t_meth 29 16 = some 101 := nr rfl
@[simp] theorem tm_29_17 : t_meth 29 17 = some 102 := nr rfl
@[simp] theorem tm_29_18 : t_meth 29 18 = some 103 := nr rfl
@[simp] theorem tm_29_19 : t_meth 29 19 = some 104 := nr rfl
@[simp] theorem tm_29_20 : t_meth 29 20 = some 105 := nr rfl
@[simp] theorem tm_29_21 : t_meth 29 21 = some 106 := nr rfl
@[simp] theorem tm_40_17 : t_meth 40 17 = some 224 := nr rfl
@[simp] theorem tm_40_19 : t_meth 40 19 = some 225 := nr rfl
@[simp] theorem tm_40_20 : t_meth 40 20 = some 226 := nr rfl
@[simp] theorem tm_40_21 : t_meth 40 21 = some 227 := nr rfl
@[simp] theorem tm_40_54 : t_meth 40 54 = some 232 := nr rfl
@[simp] theorem tm_40_59 : t_meth 40 59 = some 220 := nr rfl
@[simp] theorem tm_40_60 : t_meth 40 60 = some 221 := nr rfl
@[simp] theorem tm_40_61 : t_meth 40 61 = some 222 := nr rfl
@[simp] theorem tm_40_62 : t_meth 40 62 = some 223 := nr rfl
@[simp] theorem tm_40_63 : t_meth 40 63 = some 228 := nr rfl
@[simp] theorem tm_40_64 : t_meth 40 64 = some 229 := nr rfl
@[simp] theorem tm_40_65 : t_meth 40 65 = some 230 := nr rfl
@[simp] theorem tm_40_66 : t_meth 40 66 = some 231 := nr rfl
@[simp] theorem tg_0 : t_gcs 0 = some g_0 := nr rfl
@[simp] theorem tg_1 : t_gcs 1 = some g_1 := nr rfl
@[simp] theorem tg_2 : t_gcs 2 = some g_2 := nr rfl
@[simp] theorem tg_3 : t_gcs 3 = some g_3 := nr rfl
@[simp] theorem tg_4 : t_gcs 4 = some g_4 := nr rfl
@[simp] theorem tg_5 : t_gcs 5 = some g_5 := nr rfl
@[simp] theorem tg_11 : t_gcs 11 = some g_11 := nr rfl
@[simp] theorem tg_100 : t_gcs 100 = some g_100 := nr rfl
@[simp] theorem tg_101 : t_gcs 101 = some g_101 := nr rfl
def RUN (D : Nat) : Cal := run tab 1000 D
def EV (D : Nat) : Ev := ⟨tab, RUN D, RUN (D - 1), 1000⟩
@[simp] theorem EV_G (D : Nat) : (EV D).G = tab := nr rfl
@[simp] theorem EV_wf (D : Nat) : (EV D).wf = 1000 := nr rfl
@[simp] theorem tab_cls : tab.cls = t_cls := nr rfl
@[simp] theorem tab_meth : tab.meth = t_meth := nr rfl
@[simp] theorem tab_gcs : tab.gcs = t_gcs := nr rfl
@[simp] theorem tab_fns : tab.fns = t_fns := nr rfl
@[simp] theorem mfind_ins (h : Hb) (c m : Nat) (vs : List PV) : mfind tab h (.ins c vs) m = t_meth c m := nr rfl
theorem mfind_obj {h : Hb} {a c m : Nat} {fs : List (Nat × PV)} (e : h[a]? = some (.ins c fs)) : mfind tab h (.obj a) m = t_meth c m := by
  unfold mfind clOf
  dsimp only
  rw [e]
  rfl
theorem fldV_obj {h : Hb} {a c k : Nat} {fs : List (Nat × PV)} (e : h[a]? = some (.ins c fs)) : fldV tab h (.obj a) k = fGet fs k := by
  unfold fldV
  dsimp only
  rw [e]
theorem dft_nil {f : Nat} {fd : Fd} (e : t_fns f = some fd) (h : fd.dfl = []) (vs : List PV) : dft tab f vs = vs := by
  unfold dft
  show (match t_fns f with
  | some fd => vs ++ fd.dfl.drop (fd.dfl.length - (fd.np - vs.length))
  | none => vs) = vs
  rw [e]
  show vs ++ fd.dfl.drop (fd.dfl.length - (fd.np - vs.length)) = vs
  rw [h, List.drop_nil, List.append_nil]
theorem RUN_succ (D f : Nat) (vs : List PV) (h : Hb) : RUN (D + 1) f vs h = (match t_fns f with
      | some fd => body (EV D) fd vs h
      | none => .no) := run_succ tab 1000 D f vs h
theorem R_is_name (D : Nat) (x0 : PV) (h : Hb) : RUN (D + 1) 4 [x0] h = endN (evSs (EV D) b_is_name ⟨[.val x0, .un], h⟩) := (RUN_succ D 4 _ h).trans rfl
@[simp] theorem pf_is_name : plainFn tab 4 = true := nr rfl
@[simp] theorem pc_is_name (D : Nat) (vs : List PV) (fs : FS) : pcall (EV D) 4 vs fs = R.up fs (RUN D 4 vs fs.hp) := congrArg (fun z => R.up fs (RUN D 4 z fs.hp)) (dft_nil tf_4 rfl vs)
theorem R_is_whole (D : Nat) (x0 : PV) (h : Hb) : RUN (D + 1) 5 [x0] h = endN (evSs (EV D) b_is_whole ⟨[.val x0], h⟩) := (RUN_succ D 5 _ h).trans rfl
@[simp] theorem pf_is_whole : plainFn tab 5 = true := nr rfl
@[simp] theorem pc_is_whole (D : Nat) (vs : List PV) (fs : FS) : pcall (EV D) 5 vs fs = R.up fs (RUN D 5 vs fs.hp) := congrArg (fun z => R.up fs (RUN D 5 z fs.hp)) (dft_nil tf_5 rfl vs)
theorem R_need_name (D : Nat) (x0 : PV) (h : Hb) : RUN (D + 1) 6 [x0] h = endN (evSs (EV D) b_need_name ⟨[.val x0], h⟩) := (RUN_succ D 6 _ h).trans rfl
@[simp] theorem pf_need_name : plainFn tab 6 = true := nr rfl
@[simp] theorem pc_need_name (D : Nat) (vs : List PV) (fs : FS) : pcall (EV D) 6 vs fs = R.up fs (RUN D 6 vs fs.hp) := congrArg (fun z => R.up fs (RUN D 6 z fs.hp)) (dft_nil tf_6 rfl vs)
theorem R_Term_parts (D : Nat) (x0 : PV) (h : Hb) : RUN (D + 1) 7 [x0] h = endN (evSs (EV D) b_Term_parts ⟨[.val x0], h⟩) := (RUN_succ D 7 _ h).trans rfl
@[simp] theorem pc_Term_parts (D : Nat) (vs : List PV) (fs : FS) : fcall (EV D) 7 vs fs = R.up fs (RUN D 7 vs fs.hp) := congrArg (fun z => R.up fs (RUN D 7 z fs.hp)) (dft_nil tf_7 rfl vs)
theorem R_Term_rebuilt (D : Nat) (x0 x1 : PV) (h : Hb) : RUN (D + 1) 8 [x0, x1] h = endN (evSs (EV D) b_Term_rebuilt ⟨[.val x0, .val x1], h⟩) := (RUN_succ D 8 _ h).trans rfl
@[simp] theorem pf_Term_rebuilt : plainFn tab 8 = true := nr rfl
@[simp] theorem pc_Term_rebuilt (D : Nat) (vs : List PV) (fs : FS) : pcall (EV D) 8 vs fs = R.up fs (RUN D 8 vs fs.hp) := congrArg (fun z => R.up fs (RUN D 8 z fs.hp)) (dft_nil tf_8 rfl vs)
theorem R_Term_binds (D : Nat) (x0 : PV) (h : Hb) : RUN (D + 1) 9 [x0] h = endN (evSs (EV D) b_Term_binds ⟨[.val x0], h⟩) := (RUN_succ D 9 _ h).trans rfl
@[simp] theorem pf_Term_binds : plainFn tab 9 = true := nr rfl
@[simp] theorem pc_Term_binds (D : Nat) (vs : List PV) (fs : FS) : pcall (EV D) 9 vs fs = R.up fs (RUN D 9 vs fs.hp) := congrArg (fun z => R.up fs (RUN D 9 z fs.hp)) (dft_nil tf_9 rfl vs)
theorem R_Term_told (D : Nat) (x0 : PV) (h : Hb) : RUN (D + 1) 10 [x0] h = endN (evSs (EV D) b_Term_told ⟨[.val x0], h⟩) := (RUN_succ D 10 _ h).trans rfl
@[simp] theorem pf_Term_told : plainFn tab 10 = true := nr rfl
@[simp] theorem pc_Term_told (D : Nat) (vs : List PV) (fs : FS) : pcall (EV D) 10 vs fs = R.up fs (RUN D 10 vs fs.hp) := congrArg (fun z => R.up fs (RUN D 10 z fs.hp)) (dft_nil tf_10 rfl vs)
theorem R_Term_free (D : Nat) (x0 : PV) (h : Hb) : RUN (D + 1) 12 [x0] h = endN (evSs (EV D) b_Term_free ⟨[.val x0, .un, .un, .un], h⟩) := (RUN_succ D 12 _ h).trans rfl
@[simp] theorem pc_Term_free (D : Nat) (vs : List PV) (fs : FS) : fcall (EV D) 12 vs fs = R.up fs (RUN D 12 vs fs.hp) := congrArg (fun z => R.up fs (RUN D 12 z fs.hp)) (dft_nil tf_12 rfl vs)
theorem R_need_terms (D : Nat) (x0 : PV) (h : Hb) : RUN (D + 1) 19 [x0] h = endN (evSs (EV D) b_need_terms ⟨[.val x0, .un], h⟩) := (RUN_succ D 19 _ h).trans rfl
@[simp] theorem pf_need_terms : plainFn tab 19 = true := nr rfl
@[simp] theorem pc_need_terms (D : Nat) (vs : List PV) (fs : FS) : pcall (EV D) 19 vs fs = R.up fs (RUN D 19 vs fs.hp) := congrArg (fun z => R.up fs (RUN D 19 z fs.hp)) (dft_nil tf_19 rfl vs)
theorem R_Name_init (D : Nat) (x0 : PV) (h : Hb) : RUN (D + 1) 20 [x0] h = endI (EV D) 16 (evSs (EV D) b_Name_init ⟨[.own 16 [], .val x0], h⟩) := (RUN_succ D 20 _ h).trans rfl
theorem R_Name_told (D : Nat) (x0 : PV) (h : Hb) : RUN (D + 1) 21 [x0] h = endN (evSs (EV D) b_Name_told ⟨[.val x0], h⟩) := (RUN_succ D 21 _ h).trans rfl
@[simp] theorem pf_Name_told : plainFn tab 21 = true := nr rfl
@[simp] theorem pc_Name_told (D : Nat) (vs : List PV) (fs : FS) : pcall (EV D) 21 vs fs = R.up fs (RUN D 21 vs fs.hp) := congrArg (fun z => R.up fs (RUN D 21 z fs.hp)) (dft_nil tf_21 rfl vs)
theorem R_Name_free (D : Nat) (x0 : PV) (h : Hb) : RUN (D + 1) 23 [x0] h = endN (evSs (EV D) b_Name_free ⟨[.val x0], h⟩) := (RUN_succ D 23 _ h).trans rfl
@[simp] theorem pc_Name_free (D : Nat) (vs : List PV) (fs : FS) : fcall (EV D) 23 vs fs = R.up fs (RUN D 23 vs fs.hp) := congrArg (fun z => R.up fs (RUN D 23 z fs.hp)) (dft_nil tf_23 rfl vs)
theorem R_Number_init (D : Nat) (x0 : PV) (h : Hb) : RUN (D + 1) 25 [x0] h = endI (EV D) 17 (evSs (EV D) b_Number_init ⟨[.own 17 [], .val x0], h⟩) := (RUN_succ D 25 _ h).trans rfl
theorem R_Number_told (D : Nat) (x0 : PV) (h : Hb) : RUN (D + 1) 26 [x0] h = endN (evSs (EV D) b_Number_told ⟨[.val x0], h⟩) := (RUN_succ D 26 _ h).trans rfl
@[simp] theorem pf_Number_told : plainFn tab 26 = true := nr rfl
@[simp] theorem pc_Number_told (D : Nat) (vs : List PV) (fs : FS) : pcall (EV D) 26 vs fs = R.up fs (RUN D 26 vs fs.hp) := congrArg (fun z => R.up fs (RUN D 26 z fs.hp)) (dft_nil tf_26 rfl vs)
theorem R_Maker_init (D : Nat) (x0 x1 : PV) (h : Hb) : RUN (D + 1) 28 [x0, x1] h = endI (EV D) 18 (evSs (EV D) b_Maker_init ⟨[.own 18 [], .val x0, .val x1], h⟩) := (RUN_succ D 28 _ h).trans rfl
theorem R_Maker_parts (D : Nat) (x0 : PV) (h : Hb) : RUN (D + 1) 29 [x0] h = endN (evSs (EV D) b_Maker_parts ⟨[.val x0], h⟩) := (RUN_succ D 29 _ h).trans rfl
@[simp] theorem pc_Maker_parts (D : Nat) (vs : List PV) (fs : FS) : fcall (EV D) 29 vs fs = R.up fs (RUN D 29 vs fs.hp) := congrArg (fun z => R.up fs (RUN D 29 z fs.hp)) (dft_nil tf_29 rfl vs)
theorem R_Maker_rebuilt (D : Nat) (x0 x1 : PV) (h : Hb) : RUN (D + 1) 30 [x0, x1] h = endN (evSs (EV D) b_Maker_rebuilt ⟨[.val x0, .val x1], h⟩) := (RUN_succ D 30 _ h).trans rfl
@[simp] theorem pf_Maker_rebuilt : plainFn tab 30 = true := nr rfl
@[simp] theorem pc_Maker_rebuilt (D : Nat) (vs : List PV) (fs : FS) : pcall (EV D) 30 vs fs = R.up fs (RUN D 30 vs fs.hp) := congrArg (fun z => R.up fs (RUN D 30 z fs.hp)) (dft_nil tf_30 rfl vs)
theorem R_Maker_binds (D : Nat) (x0 : PV) (h : Hb) : RUN (D + 1) 31 [x0] h = endN (evSs (EV D) b_Maker_binds ⟨[.val x0], h⟩) := (RUN_succ D 31 _ h).trans rfl
@[simp] theorem pf_Maker_binds : plainFn tab 31 = true := nr rfl
@[simp] theorem pc_Maker_binds (D : Nat) (vs : List PV) (fs : FS) : pcall (EV D) 31 vs fs = R.up fs (RUN D 31 vs fs.hp) := congrArg (fun z => R.up fs (RUN D 31 z fs.hp)) (dft_nil tf_31 rfl vs)
theorem R_Maker_told (D : Nat) (x0 : PV) (h : Hb) : RUN (D + 1) 32 [x0] h = endN (evSs (EV D) b_Maker_told ⟨[.val x0], h⟩) := (RUN_succ D 32 _ h).trans rfl
@[simp] theorem pf_Maker_told : plainFn tab 32 = true := nr rfl
@[simp] theorem pc_Maker_told (D : Nat) (vs : List PV) (fs : FS) : pcall (EV D) 32 vs fs = R.up fs (RUN D 32 vs fs.hp) := congrArg (fun z => R.up fs (RUN D 32 z fs.hp)) (dft_nil tf_32 rfl vs)
theorem R_Give_init (D : Nat) (x0 x1 : PV) (h : Hb) : RUN (D + 1) 34 [x0, x1] h = endI (EV D) 19 (evSs (EV D) b_Give_init ⟨[.own 19 [], .val x0, .val x1], h⟩) := (RUN_succ D 34 _ h).trans rfl
theorem R_Give_parts (D : Nat) (x0 : PV) (h : Hb) : RUN (D + 1) 35 [x0] h = endN (evSs (EV D) b_Give_parts ⟨[.val x0], h⟩) := (RUN_succ D 35 _ h).trans rfl
@[simp] theorem pc_Give_parts (D : Nat) (vs : List PV) (fs : FS) : fcall (EV D) 35 vs fs = R.up fs (RUN D 35 vs fs.hp) := congrArg (fun z => R.up fs (RUN D 35 z fs.hp)) (dft_nil tf_35 rfl vs)
theorem R_Give_rebuilt (D : Nat) (x0 x1 : PV) (h : Hb) : RUN (D + 1) 36 [x0, x1] h = endN (evSs (EV D) b_Give_rebuilt ⟨[.val x0, .val x1], h⟩) := (RUN_succ D 36 _ h).trans rfl
@[simp] theorem pf_Give_rebuilt : plainFn tab 36 = true := nr rfl
@[simp] theorem pc_Give_rebuilt (D : Nat) (vs : List PV) (fs : FS) : pcall (EV D) 36 vs fs = R.up fs (RUN D 36 vs fs.hp) := congrArg (fun z => R.up fs (RUN D 36 z fs.hp)) (dft_nil tf_36 rfl vs)
theorem R_Give_told (D : Nat) (x0 : PV) (h : Hb) : RUN (D + 1) 37 [x0] h = endN (evSs (EV D) b_Give_told ⟨[.val x0], h⟩) := (RUN_succ D 37 _ h).trans rfl
@[simp] theorem pf_Give_told : plainFn tab 37 = true := nr rfl
@[simp] theorem pc_Give_told (D : Nat) (vs : List PV) (fs : FS) : pcall (EV D) 37 vs fs = R.up fs (RUN D 37 vs fs.hp) := congrArg (fun z => R.up fs (RUN D 37 z fs.hp)) (dft_nil tf_37 rfl vs)
theorem R_Sum_init (D : Nat) (x0 x1 x2 : PV) (h : Hb) : RUN (D + 1) 39 [x0, x1, x2] h = endI (EV D) 20 (evSs (EV D) b_Sum_init ⟨[.own 20 [], .val x0, .val x1, .val x2], h⟩) := (RUN_succ D 39 _ h).trans rfl
theorem R_Sum_parts (D : Nat) (x0 : PV) (h : Hb) : RUN (D + 1) 40 [x0] h = endN (evSs (EV D) b_Sum_parts ⟨[.val x0], h⟩) := (RUN_succ D 40 _ h).trans rfl
@[simp] theorem pc_Sum_parts (D : Nat) (vs : List PV) (fs : FS) : fcall (EV D) 40 vs fs = R.up fs (RUN D 40 vs fs.hp) := congrArg (fun z => R.up fs (RUN D 40 z fs.hp)) (dft_nil tf_40 rfl vs)
theorem R_Sum_rebuilt (D : Nat) (x0 x1 : PV) (h : Hb) : RUN (D + 1) 41 [x0, x1] h = endN (evSs (EV D) b_Sum_rebuilt ⟨[.val x0, .val x1], h⟩) := (RUN_succ D 41 _ h).trans rfl
@[simp] theorem pf_Sum_rebuilt : plainFn tab 41 = true := nr rfl
@[simp] theorem pc_Sum_rebuilt (D : Nat) (vs : List PV) (fs : FS) : pcall (EV D) 41 vs fs = R.up fs (RUN D 41 vs fs.hp) := congrArg (fun z => R.up fs (RUN D 41 z fs.hp)) (dft_nil tf_41 rfl vs)
theorem R_Sum_told (D : Nat) (x0 : PV) (h : Hb) : RUN (D + 1) 42 [x0] h = endN (evSs (EV D) b_Sum_told ⟨[.val x0], h⟩) := (RUN_succ D 42 _ h).trans rfl
@[simp] theorem pf_Sum_told : plainFn tab 42 = true := nr rfl
@[simp] theorem pc_Sum_told (D : Nat) (vs : List PV) (fs : FS) : pcall (EV D) 42 vs fs = R.up fs (RUN D 42 vs fs.hp) := congrArg (fun z => R.up fs (RUN D 42 z fs.hp)) (dft_nil tf_42 rfl vs)
theorem R_Choice_init (D : Nat) (x0 x1 x2 : PV) (h : Hb) : RUN (D + 1) 44 [x0, x1, x2] h = endI (EV D) 21 (evSs (EV D) b_Choice_init ⟨[.own 21 [], .val x0, .val x1, .val x2], h⟩) := (RUN_succ D 44 _ h).trans rfl
theorem R_Choice_parts (D : Nat) (x0 : PV) (h : Hb) : RUN (D + 1) 45 [x0] h = endN (evSs (EV D) b_Choice_parts ⟨[.val x0], h⟩) := (RUN_succ D 45 _ h).trans rfl
@[simp] theorem pc_Choice_parts (D : Nat) (vs : List PV) (fs : FS) : fcall (EV D) 45 vs fs = R.up fs (RUN D 45 vs fs.hp) := congrArg (fun z => R.up fs (RUN D 45 z fs.hp)) (dft_nil tf_45 rfl vs)
theorem R_Choice_rebuilt (D : Nat) (x0 x1 : PV) (h : Hb) : RUN (D + 1) 46 [x0, x1] h = endN (evSs (EV D) b_Choice_rebuilt ⟨[.val x0, .val x1], h⟩) := (RUN_succ D 46 _ h).trans rfl
@[simp] theorem pf_Choice_rebuilt : plainFn tab 46 = true := nr rfl
@[simp] theorem pc_Choice_rebuilt (D : Nat) (vs : List PV) (fs : FS) : pcall (EV D) 46 vs fs = R.up fs (RUN D 46 vs fs.hp) := congrArg (fun z => R.up fs (RUN D 46 z fs.hp)) (dft_nil tf_46 rfl vs)
theorem R_Choice_told (D : Nat) (x0 : PV) (h : Hb) : RUN (D + 1) 47 [x0] h = endN (evSs (EV D) b_Choice_told ⟨[.val x0], h⟩) := (RUN_succ D 47 _ h).trans rfl
@[simp] theorem pf_Choice_told : plainFn tab 47 = true := nr rfl
@[simp] theorem pc_Choice_told (D : Nat) (vs : List PV) (fs : FS) : pcall (EV D) 47 vs fs = R.up fs (RUN D 47 vs fs.hp) := congrArg (fun z => R.up fs (RUN D 47 z fs.hp)) (dft_nil tf_47 rfl vs)
theorem R_Again_init (D : Nat) (x0 x1 : PV) (h : Hb) : RUN (D + 1) 49 [x0, x1] h = endI (EV D) 22 (evSs (EV D) b_Again_init ⟨[.own 22 [], .val x0, .val x1], h⟩) := (RUN_succ D 49 _ h).trans rfl
theorem R_Again_parts (D : Nat) (x0 : PV) (h : Hb) : RUN (D + 1) 50 [x0] h = endN (evSs (EV D) b_Again_parts ⟨[.val x0], h⟩) := (RUN_succ D 50 _ h).trans rfl
@[simp] theorem pc_Again_parts (D : Nat) (vs : List PV) (fs : FS) : fcall (EV D) 50 vs fs = R.up fs (RUN D 50 vs fs.hp) := congrArg (fun z => R.up fs (RUN D 50 z fs.hp)) (dft_nil tf_50 rfl vs)
theorem R_Again_rebuilt (D : Nat) (x0 x1 : PV) (h : Hb) : RUN (D + 1) 51 [x0, x1] h = endN (evSs (EV D) b_Again_rebuilt ⟨[.val x0, .val x1], h⟩) := (RUN_succ D 51 _ h).trans rfl
@[simp] theorem pf_Again_rebuilt : plainFn tab 51 = true := nr rfl
@[simp] theorem pc_Again_rebuilt (D : Nat) (vs : List PV) (fs : FS) : pcall (EV D) 51 vs fs = R.up fs (RUN D 51 vs fs.hp) := congrArg (fun z => R.up fs (RUN D 51 z fs.hp)) (dft_nil tf_51 rfl vs)
theorem R_Again_binds (D : Nat) (x0 : PV) (h : Hb) : RUN (D + 1) 52 [x0] h = endN (evSs (EV D) b_Again_binds ⟨[.val x0], h⟩) := (RUN_succ D 52 _ h).trans rfl
@[simp] theorem pf_Again_binds : plainFn tab 52 = true := nr rfl
@[simp] theorem pc_Again_binds (D : Nat) (vs : List PV) (fs : FS) : pcall (EV D) 52 vs fs = R.up fs (RUN D 52 vs fs.hp) := congrArg (fun z => R.up fs (RUN D 52 z fs.hp)) (dft_nil tf_52 rfl vs)
theorem R_Again_told (D : Nat) (x0 : PV) (h : Hb) : RUN (D + 1) 53 [x0] h = endN (evSs (EV D) b_Again_told ⟨[.val x0], h⟩) := (RUN_succ D 53 _ h).trans rfl
@[simp] theorem pf_Again_told : plainFn tab 53 = true := nr rfl
@[simp] theorem pc_Again_told (D : Nat) (vs : List PV) (fs : FS) : pcall (EV D) 53 vs fs = R.up fs (RUN D 53 vs fs.hp) := congrArg (fun z => R.up fs (RUN D 53 z fs.hp)) (dft_nil tf_53 rfl vs)
theorem R_must_be_closed (D : Nat) (x0 : PV) (h : Hb) : RUN (D + 1) 55 [x0] h = endN (evSs (EV D) b_must_be_closed ⟨[.val x0, .un], h⟩) := (RUN_succ D 55 _ h).trans rfl
@[simp] theorem pf_must_be_closed : plainFn tab 55 = true := nr rfl
@[simp] theorem pc_must_be_closed (D : Nat) (vs : List PV) (fs : FS) : pcall (EV D) 55 vs fs = R.up fs (RUN D 55 vs fs.hp) := congrArg (fun z => R.up fs (RUN D 55 z fs.hp)) (dft_nil tf_55 rfl vs)
theorem R_Late_init (D : Nat) (x0 x1 : PV) (h : Hb) : RUN (D + 1) 72 [x0, x1] h = endI (EV D) 23 (evSs (EV D) b_Late_init ⟨[.own 23 [], .val x0, .val x1, .un, .un], h⟩) := (RUN_succ D 72 _ h).trans rfl
theorem R_is_beyond (D : Nat) (x0 x1 : PV) (h : Hb) : RUN (D + 1) 73 [x0, x1] h = endN (evSs (EV D) b_is_beyond ⟨[.val x0, .val x1], h⟩) := (RUN_succ D 73 _ h).trans rfl
@[simp] theorem pf_is_beyond : plainFn tab 73 = true := nr rfl
@[simp] theorem pc_is_beyond (D : Nat) (vs : List PV) (fs : FS) : pcall (EV D) 73 vs fs = R.up fs (RUN D 73 vs fs.hp) := congrArg (fun z => R.up fs (RUN D 73 z fs.hp)) (dft_nil tf_73 rfl vs)
theorem R_measured (D : Nat) (x0 x1 x2 : PV) (h : Hb) : RUN (D + 1) 74 [x0, x1, x2] h = endN (evSs (EV D) b_measured ⟨[.val x0, .val x1, .val x2, .un, .un, .un, .un, .un], h⟩) := (RUN_succ D 74 _ h).trans rfl
@[simp] theorem pf_measured : plainFn tab 74 = true := nr rfl
@[simp] theorem pc_measured (D : Nat) (vs : List PV) (fs : FS) : pcall (EV D) 74 vs fs = R.up fs (RUN D 74 vs fs.hp) := congrArg (fun z => R.up fs (RUN D 74 z fs.hp)) (dft_nil tf_74 rfl vs)
theorem R_read_back (D : Nat) (x0 x1 x2 : PV) (h : Hb) : RUN (D + 1) 75 [x0, x1, x2] h = endN (evSs (EV D) b_read_back ⟨[.val x0, .val x1, .val x2, .un, .un], h⟩) := (RUN_succ D 75 _ h).trans rfl
@[simp] theorem pf_read_back : plainFn tab 75 = true := nr rfl
@[simp] theorem pc_read_back (D : Nat) (vs : List PV) (fs : FS) : pcall (EV D) 75 vs fs = R.up fs (RUN D 75 vs fs.hp) := congrArg (fun z => R.up fs (RUN D 75 z fs.hp)) (dft_nil tf_75 rfl vs)
theorem R_term_of (D : Nat) (x0 : PV) (h : Hb) : RUN (D + 1) 61 [x0] h = endN (evSs (EV D) b_term_of ⟨[.val x0, .un], h⟩) := (RUN_succ D 61 _ h).trans rfl
@[simp] theorem pf_term_of : plainFn tab 61 = true := nr rfl
@[simp] theorem pc_term_of (D : Nat) (vs : List PV) (fs : FS) : pcall (EV D) 61 vs fs = R.up fs (RUN D 61 vs fs.hp) := congrArg (fun z => R.up fs (RUN D 61 z fs.hp)) (dft_nil tf_61 rfl vs)
theorem R_sum_of (D : Nat) (x0 x1 x2 : PV) (h : Hb) : RUN (D + 1) 62 [x0, x1, x2] h = endN (evSs (EV D) b_sum_of ⟨[.val x0, .val x1, .val x2], h⟩) := (RUN_succ D 62 _ h).trans rfl
@[simp] theorem pf_sum_of : plainFn tab 62 = true := nr rfl
@[simp] theorem pc_sum_of (D : Nat) (vs : List PV) (fs : FS) : pcall (EV D) 62 vs fs = R.up fs (RUN D 62 vs fs.hp) := congrArg (fun z => R.up fs (RUN D 62 z fs.hp)) (dft_nil tf_62 rfl vs)
theorem R_GivenWait_init (D : Nat) (x0 : PV) (h : Hb) : RUN (D + 1) 80 [x0] h = endI (EV D) 25 (evSs (EV D) b_GivenWait_init ⟨[.own 25 [], .val x0], h⟩) := (RUN_succ D 80 _ h).trans rfl
theorem R_GivenWait_sort_for (D : Nat) (x0 x1 : PV) (h : Hb) : RUN (D + 1) 81 [x0, x1] h = endN (evSs (EV D) b_GivenWait_sort_for ⟨[.val x0, .val x1], h⟩) := (RUN_succ D 81 _ h).trans rfl
@[simp] theorem pf_GivenWait_sort_for : plainFn tab 81 = true := nr rfl
@[simp] theorem pc_GivenWait_sort_for (D : Nat) (vs : List PV) (fs : FS) : pcall (EV D) 81 vs fs = R.up fs (RUN D 81 vs fs.hp) := congrArg (fun z => R.up fs (RUN D 81 z fs.hp)) (dft_nil tf_81 rfl vs)
theorem R_GivenWait_after (D : Nat) (x0 x1 x2 : PV) (h : Hb) : RUN (D + 1) 82 [x0, x1, x2] h = endN (evSs (EV D) b_GivenWait_after ⟨[.val x0, .val x1, .val x2], h⟩) := (RUN_succ D 82 _ h).trans rfl
@[simp] theorem pf_GivenWait_after : plainFn tab 82 = true := nr rfl
@[simp] theorem pc_GivenWait_after (D : Nat) (vs : List PV) (fs : FS) : pcall (EV D) 82 vs fs = R.up fs (RUN D 82 vs fs.hp) := congrArg (fun z => R.up fs (RUN D 82 z fs.hp)) (dft_nil tf_82 rfl vs)
theorem R_GivenWait_grown (D : Nat) (x0 x1 x2 : PV) (h : Hb) : RUN (D + 1) 83 [x0, x1, x2] h = endN (evSs (EV D) b_GivenWait_grown ⟨[.val x0, .val x1, .val x2], h⟩) := (RUN_succ D 83 _ h).trans rfl
@[simp] theorem pf_GivenWait_grown : plainFn tab 83 = true := nr rfl
@[simp] theorem pc_GivenWait_grown (D : Nat) (vs : List PV) (fs : FS) : pcall (EV D) 83 vs fs = R.up fs (RUN D 83 vs fs.hp) := congrArg (fun z => R.up fs (RUN D 83 z fs.hp)) (dft_nil tf_83 rfl vs)
theorem R_GivenWait_around (D : Nat) (x0 x1 : PV) (h : Hb) : RUN (D + 1) 84 [x0, x1] h = endN (evSs (EV D) b_GivenWait_around ⟨[.val x0, .val x1], h⟩) := (RUN_succ D 84 _ h).trans rfl
@[simp] theorem pf_GivenWait_around : plainFn tab 84 = true := nr rfl
@[simp] theorem pc_GivenWait_around (D : Nat) (vs : List PV) (fs : FS) : pcall (EV D) 84 vs fs = R.up fs (RUN D 84 vs fs.hp) := congrArg (fun z => R.up fs (RUN D 84 z fs.hp)) (dft_nil tf_84 rfl vs)
theorem R_OtherWait_init (D : Nat) (x0 x1 : PV) (h : Hb) : RUN (D + 1) 85 [x0, x1] h = endI (EV D) 26 (evSs (EV D) b_OtherWait_init ⟨[.own 26 [], .val x0, .val x1], h⟩) := (RUN_succ D 85 _ h).trans rfl
theorem R_OtherWait_sort_for (D : Nat) (x0 x1 : PV) (h : Hb) : RUN (D + 1) 86 [x0, x1] h = endN (evSs (EV D) b_OtherWait_sort_for ⟨[.val x0, .val x1], h⟩) := (RUN_succ D 86 _ h).trans rfl
@[simp] theorem pf_OtherWait_sort_for : plainFn tab 86 = true := nr rfl
@[simp] theorem pc_OtherWait_sort_for (D : Nat) (vs : List PV) (fs : FS) : pcall (EV D) 86 vs fs = R.up fs (RUN D 86 vs fs.hp) := congrArg (fun z => R.up fs (RUN D 86 z fs.hp)) (dft_nil tf_86 rfl vs)
theorem R_OtherWait_after (D : Nat) (x0 x1 x2 : PV) (h : Hb) : RUN (D + 1) 87 [x0, x1, x2] h = endN (evSs (EV D) b_OtherWait_after ⟨[.val x0, .val x1, .val x2], h⟩) := (RUN_succ D 87 _ h).trans rfl
@[simp] theorem pf_OtherWait_after : plainFn tab 87 = true := nr rfl
@[simp] theorem pc_OtherWait_after (D : Nat) (vs : List PV) (fs : FS) : pcall (EV D) 87 vs fs = R.up fs (RUN D 87 vs fs.hp) := congrArg (fun z => R.up fs (RUN D 87 z fs.hp)) (dft_nil tf_87 rfl vs)
theorem R_OtherWait_grown (D : Nat) (x0 x1 x2 : PV) (h : Hb) : RUN (D + 1) 88 [x0, x1, x2] h = endN (evSs (EV D) b_OtherWait_grown ⟨[.val x0, .val x1, .val x2], h⟩) := (RUN_succ D 88 _ h).trans rfl
@[simp] theorem pf_OtherWait_grown : plainFn tab 88 = true := nr rfl
@[simp] theorem pc_OtherWait_grown (D : Nat) (vs : List PV) (fs : FS) : pcall (EV D) 88 vs fs = R.up fs (RUN D 88 vs fs.hp) := congrArg (fun z => R.up fs (RUN D 88 z fs.hp)) (dft_nil tf_88 rfl vs)
theorem R_OtherWait_around (D : Nat) (x0 x1 : PV) (h : Hb) : RUN (D + 1) 89 [x0, x1] h = endN (evSs (EV D) b_OtherWait_around ⟨[.val x0, .val x1], h⟩) := (RUN_succ D 89 _ h).trans rfl
@[simp] theorem pf_OtherWait_around : plainFn tab 89 = true := nr rfl
@[simp] theorem pc_OtherWait_around (D : Nat) (vs : List PV) (fs : FS) : pcall (EV D) 89 vs fs = R.up fs (RUN D 89 vs fs.hp) := congrArg (fun z => R.up fs (RUN D 89 z fs.hp)) (dft_nil tf_89 rfl vs)
theorem R_NumberWait_init (D : Nat) (x0 x1 : PV) (h : Hb) : RUN (D + 1) 90 [x0, x1] h = endI (EV D) 27 (evSs (EV D) b_NumberWait_init ⟨[.own 27 [], .val x0, .val x1], h⟩) := (RUN_succ D 90 _ h).trans rfl
theorem R_NumberWait_sort_for (D : Nat) (x0 x1 : PV) (h : Hb) : RUN (D + 1) 91 [x0, x1] h = endN (evSs (EV D) b_NumberWait_sort_for ⟨[.val x0, .val x1], h⟩) := (RUN_succ D 91 _ h).trans rfl
@[simp] theorem pf_NumberWait_sort_for : plainFn tab 91 = true := nr rfl
@[simp] theorem pc_NumberWait_sort_for (D : Nat) (vs : List PV) (fs : FS) : pcall (EV D) 91 vs fs = R.up fs (RUN D 91 vs fs.hp) := congrArg (fun z => R.up fs (RUN D 91 z fs.hp)) (dft_nil tf_91 rfl vs)
theorem R_NumberWait_after (D : Nat) (x0 x1 x2 : PV) (h : Hb) : RUN (D + 1) 92 [x0, x1, x2] h = endN (evSs (EV D) b_NumberWait_after ⟨[.val x0, .val x1, .val x2], h⟩) := (RUN_succ D 92 _ h).trans rfl
@[simp] theorem pf_NumberWait_after : plainFn tab 92 = true := nr rfl
@[simp] theorem pc_NumberWait_after (D : Nat) (vs : List PV) (fs : FS) : pcall (EV D) 92 vs fs = R.up fs (RUN D 92 vs fs.hp) := congrArg (fun z => R.up fs (RUN D 92 z fs.hp)) (dft_nil tf_92 rfl vs)
theorem R_NumberWait_grown (D : Nat) (x0 x1 x2 : PV) (h : Hb) : RUN (D + 1) 93 [x0, x1, x2] h = endN (evSs (EV D) b_NumberWait_grown ⟨[.val x0, .val x1, .val x2], h⟩) := (RUN_succ D 93 _ h).trans rfl
@[simp] theorem pf_NumberWait_grown : plainFn tab 93 = true := nr rfl
@[simp] theorem pc_NumberWait_grown (D : Nat) (vs : List PV) (fs : FS) : pcall (EV D) 93 vs fs = R.up fs (RUN D 93 vs fs.hp) := congrArg (fun z => R.up fs (RUN D 93 z fs.hp)) (dft_nil tf_93 rfl vs)
theorem R_NumberWait_around (D : Nat) (x0 x1 : PV) (h : Hb) : RUN (D + 1) 94 [x0, x1] h = endN (evSs (EV D) b_NumberWait_around ⟨[.val x0, .val x1], h⟩) := (RUN_succ D 94 _ h).trans rfl
@[simp] theorem pf_NumberWait_around : plainFn tab 94 = true := nr rfl
@[simp] theorem pc_NumberWait_around (D : Nat) (vs : List PV) (fs : FS) : pcall (EV D) 94 vs fs = R.up fs (RUN D 94 vs fs.hp) := congrArg (fun z => R.up fs (RUN D 94 z fs.hp)) (dft_nil tf_94 rfl vs)
theorem R_ChoiceWait_init (D : Nat) (x0 x1 : PV) (h : Hb) : RUN (D + 1) 95 [x0, x1] h = endI (EV D) 28 (evSs (EV D) b_ChoiceWait_init ⟨[.own 28 [], .val x0, .val x1], h⟩) := (RUN_succ D 95 _ h).trans rfl
theorem R_ChoiceWait_sort_for (D : Nat) (x0 x1 : PV) (h : Hb) : RUN (D + 1) 96 [x0, x1] h = endN (evSs (EV D) b_ChoiceWait_sort_for ⟨[.val x0, .val x1], h⟩) := (RUN_succ D 96 _ h).trans rfl
@[simp] theorem pf_ChoiceWait_sort_for : plainFn tab 96 = true := nr rfl
@[simp] theorem pc_ChoiceWait_sort_for (D : Nat) (vs : List PV) (fs : FS) : pcall (EV D) 96 vs fs = R.up fs (RUN D 96 vs fs.hp) := congrArg (fun z => R.up fs (RUN D 96 z fs.hp)) (dft_nil tf_96 rfl vs)
theorem R_ChoiceWait_after (D : Nat) (x0 x1 x2 : PV) (h : Hb) : RUN (D + 1) 97 [x0, x1, x2] h = endN (evSs (EV D) b_ChoiceWait_after ⟨[.val x0, .val x1, .val x2, .un], h⟩) := (RUN_succ D 97 _ h).trans rfl
@[simp] theorem pf_ChoiceWait_after : plainFn tab 97 = true := nr rfl
@[simp] theorem pc_ChoiceWait_after (D : Nat) (vs : List PV) (fs : FS) : pcall (EV D) 97 vs fs = R.up fs (RUN D 97 vs fs.hp) := congrArg (fun z => R.up fs (RUN D 97 z fs.hp)) (dft_nil tf_97 rfl vs)
theorem R_ChoiceWait_grown (D : Nat) (x0 x1 x2 : PV) (h : Hb) : RUN (D + 1) 98 [x0, x1, x2] h = endN (evSs (EV D) b_ChoiceWait_grown ⟨[.val x0, .val x1, .val x2, .un], h⟩) := (RUN_succ D 98 _ h).trans rfl
@[simp] theorem pf_ChoiceWait_grown : plainFn tab 98 = true := nr rfl
@[simp] theorem pc_ChoiceWait_grown (D : Nat) (vs : List PV) (fs : FS) : pcall (EV D) 98 vs fs = R.up fs (RUN D 98 vs fs.hp) := congrArg (fun z => R.up fs (RUN D 98 z fs.hp)) (dft_nil tf_98 rfl vs)
theorem R_ChoiceWait_around (D : Nat) (x0 x1 : PV) (h : Hb) : RUN (D + 1) 99 [x0, x1] h = endN (evSs (EV D) b_ChoiceWait_around ⟨[.val x0, .val x1], h⟩) := (RUN_succ D 99 _ h).trans rfl
@[simp] theorem pf_ChoiceWait_around : plainFn tab 99 = true := nr rfl
@[simp] theorem pc_ChoiceWait_around (D : Nat) (vs : List PV) (fs : FS) : pcall (EV D) 99 vs fs = R.up fs (RUN D 99 vs fs.hp) := congrArg (fun z => R.up fs (RUN D 99 z fs.hp)) (dft_nil tf_99 rfl vs)
theorem R_State_init (D : Nat) (x0 x1 x2 : PV) (h : Hb) : RUN (D + 1) 100 [x0, x1, x2] h = endI (EV D) 29 (evSs (EV D) b_State_init ⟨[.own 29 [], .val x0, .val x1, .val x2], h⟩) := (RUN_succ D 100 _ h).trans rfl
theorem R_State_next_sort (D : Nat) (x0 : PV) (h : Hb) : RUN (D + 1) 101 [x0] h = endN (evSs (EV D) b_State_next_sort ⟨[.val x0], h⟩) := (RUN_succ D 101 _ h).trans rfl
@[simp] theorem pf_State_next_sort : plainFn tab 101 = true := nr rfl
@[simp] theorem pc_State_next_sort (D : Nat) (vs : List PV) (fs : FS) : pcall (EV D) 101 vs fs = R.up fs (RUN D 101 vs fs.hp) := congrArg (fun z => R.up fs (RUN D 101 z fs.hp)) (dft_nil tf_101 rfl vs)
theorem R_State_how (D : Nat) (x0 : PV) (h : Hb) : RUN (D + 1) 102 [x0] h = endN (evSs (EV D) b_State_how ⟨[.val x0], h⟩) := (RUN_succ D 102 _ h).trans rfl
@[simp] theorem pf_State_how : plainFn tab 102 = true := nr rfl
@[simp] theorem pc_State_how (D : Nat) (vs : List PV) (fs : FS) : pcall (EV D) 102 vs fs = R.up fs (RUN D 102 vs fs.hp) := congrArg (fun z => R.up fs (RUN D 102 z fs.hp)) (dft_nil tf_102 rfl vs)
theorem R_State_step (D : Nat) (x0 : PV) (h : Hb) : RUN (D + 1) 103 [x0] h = endN (evSs (EV D) b_State_step ⟨[.val x0, .un, .un], h⟩) := (RUN_succ D 103 _ h).trans rfl
@[simp] theorem pf_State_step : plainFn tab 103 = true := nr rfl
@[simp] theorem pc_State_step (D : Nat) (vs : List PV) (fs : FS) : pcall (EV D) 103 vs fs = R.up fs (RUN D 103 vs fs.hp) := congrArg (fun z => R.up fs (RUN D 103 z fs.hp)) (dft_nil tf_103 rfl vs)
theorem R_State_came (D : Nat) (x0 : PV) (h : Hb) : RUN (D + 1) 104 [x0] h = endN (evSs (EV D) b_State_came ⟨[.val x0], h⟩) := (RUN_succ D 104 _ h).trans rfl
@[simp] theorem pf_State_came : plainFn tab 104 = true := nr rfl
@[simp] theorem pc_State_came (D : Nat) (vs : List PV) (fs : FS) : pcall (EV D) 104 vs fs = R.up fs (RUN D 104 vs fs.hp) := congrArg (fun z => R.up fs (RUN D 104 z fs.hp)) (dft_nil tf_104 rfl vs)
theorem R_State_height (D : Nat) (x0 : PV) (h : Hb) : RUN (D + 1) 105 [x0] h = endN (evSs (EV D) b_State_height ⟨[.val x0], h⟩) := (RUN_succ D 105 _ h).trans rfl
@[simp] theorem pf_State_height : plainFn tab 105 = true := nr rfl
@[simp] theorem pc_State_height (D : Nat) (vs : List PV) (fs : FS) : pcall (EV D) 105 vs fs = R.up fs (RUN D 105 vs fs.hp) := congrArg (fun z => R.up fs (RUN D 105 z fs.hp)) (dft_nil tf_105 rfl vs)
theorem R_State_shown (D : Nat) (x0 : PV) (h : Hb) : RUN (D + 1) 106 [x0] h = endN (evSs (EV D) b_State_shown ⟨[.val x0, .un, .un, .un, .un], h⟩) := (RUN_succ D 106 _ h).trans rfl
@[simp] theorem pf_State_shown : plainFn tab 106 = true := nr rfl
@[simp] theorem pc_State_shown (D : Nat) (vs : List PV) (fs : FS) : pcall (EV D) 106 vs fs = R.up fs (RUN D 106 vs fs.hp) := congrArg (fun z => R.up fs (RUN D 106 z fs.hp)) (dft_nil tf_106 rfl vs)
theorem R_opened (D : Nat) (x0 : PV) (h : Hb) : RUN (D + 1) 107 [x0] h = endN (evSs (EV D) b_opened ⟨[.val x0, .un, .un], h⟩) := (RUN_succ D 107 _ h).trans rfl
@[simp] theorem pf_opened : plainFn tab 107 = true := nr rfl
@[simp] theorem pc_opened (D : Nat) (vs : List PV) (fs : FS) : pcall (EV D) 107 vs fs = R.up fs (RUN D 107 vs fs.hp) := congrArg (fun z => R.up fs (RUN D 107 z fs.hp)) (dft_nil tf_107 rfl vs)
theorem R_looked (D : Nat) (x0 : PV) (h : Hb) : RUN (D + 1) 108 [x0] h = endN (evSs (EV D) b_looked ⟨[.val x0, .un], h⟩) := (RUN_succ D 108 _ h).trans rfl
@[simp] theorem pf_looked : plainFn tab 108 = true := nr rfl
@[simp] theorem pc_looked (D : Nat) (vs : List PV) (fs : FS) : pcall (EV D) 108 vs fs = R.up fs (RUN D 108 vs fs.hp) := congrArg (fun z => R.up fs (RUN D 108 z fs.hp)) (dft_nil tf_108 rfl vs)
theorem R_turned (D : Nat) (x0 : PV) (h : Hb) : RUN (D + 1) 109 [x0] h = endN (evSs (EV D) b_turned ⟨[.val x0, .un], h⟩) := (RUN_succ D 109 _ h).trans rfl
@[simp] theorem pf_turned : plainFn tab 109 = true := nr rfl
@[simp] theorem pc_turned (D : Nat) (vs : List PV) (fs : FS) : pcall (EV D) 109 vs fs = R.up fs (RUN D 109 vs fs.hp) := congrArg (fun z => R.up fs (RUN D 109 z fs.hp)) (dft_nil tf_109 rfl vs)
theorem R_went_on (D : Nat) (x0 : PV) (h : Hb) : RUN (D + 1) 110 [x0] h = endN (evSs (EV D) b_went_on ⟨[.val x0, .un, .un, .un], h⟩) := (RUN_succ D 110 _ h).trans rfl
@[simp] theorem pf_went_on : plainFn tab 110 = true := nr rfl
@[simp] theorem pc_went_on (D : Nat) (vs : List PV) (fs : FS) : pcall (EV D) 110 vs fs = R.up fs (RUN D 110 vs fs.hp) := congrArg (fun z => R.up fs (RUN D 110 z fs.hp)) (dft_nil tf_110 rfl vs)
theorem R_first_state (D : Nat) (x0 : PV) (h : Hb) : RUN (D + 1) 111 [x0] h = endN (evSs (EV D) b_first_state ⟨[.val x0], h⟩) := (RUN_succ D 111 _ h).trans rfl
@[simp] theorem pf_first_state : plainFn tab 111 = true := nr rfl
@[simp] theorem pc_first_state (D : Nat) (vs : List PV) (fs : FS) : pcall (EV D) 111 vs fs = R.up fs (RUN D 111 vs fs.hp) := congrArg (fun z => R.up fs (RUN D 111 z fs.hp)) (dft_nil tf_111 rfl vs)
theorem R_machine_run (D : Nat) (x0 x1 : PV) (h : Hb) : RUN (D + 1) 112 [x0, x1] h = endN (evSs (EV D) b_machine_run ⟨[.val x0, .val x1, .un, .un, .un, .un], h⟩) := (RUN_succ D 112 _ h).trans rfl
@[simp] theorem pf_machine_run : plainFn tab 112 = true := nr rfl
@[simp] theorem pc_machine_run (D : Nat) (vs : List PV) (fs : FS) : pcall (EV D) 112 vs fs = R.up fs (RUN D 112 vs fs.hp) := congrArg (fun z => R.up fs (RUN D 112 z fs.hp)) (dft_nil tf_112 rfl vs)
theorem R_tally_with (D : Nat) (x0 : PV) (h : Hb) : RUN (D + 1) 116 [x0] h = endN (evSs (EV D) b_tally_with ⟨[.val x0, .un, .un], h⟩) := (RUN_succ D 116 _ h).trans rfl
@[simp] theorem pc_tally_with (D : Nat) (vs : List PV) (fs : FS) : fcall (EV D) 116 vs fs = R.up fs (RUN D 116 vs fs.hp) := congrArg (fun z => R.up fs (RUN D 116 z fs.hp)) (dft_nil tf_116 rfl vs)
theorem R_Bench_init (D : Nat) (x0 x1 : PV) (h : Hb) : RUN (D + 1) 219 [x0, x1] h = endN (evSs (EV D) b_Bench_init ⟨[.val x0, .val x1], h⟩) := (RUN_succ D 219 _ h).trans rfl
@[simp] theorem pf_Bench_init : plainFn tab 219 = true := nr rfl
@[simp] theorem pc_Bench_init (D : Nat) (vs : List PV) (fs : FS) : pcall (EV D) 219 vs fs = R.up fs (RUN D 219 vs fs.hp) := congrArg (fun z => R.up fs (RUN D 219 z fs.hp)) (dft_nil tf_219 rfl vs)
theorem R_Bench_forth (D : Nat) (x0 x1 : PV) (h : Hb) : RUN (D + 1) 220 [x0, x1] h = endN (evSs (EV D) b_Bench_forth ⟨[.val x0, .val x1, .un], h⟩) := (RUN_succ D 220 _ h).trans rfl
@[simp] theorem pf_Bench_forth : plainFn tab 220 = true := nr rfl
@[simp] theorem pc_Bench_forth_2 (D : Nat) (x0 x1 : PV) (fs : FS) : pcall (EV D) 220 [x0, x1] fs = R.up fs (RUN D 220 [x0, x1] fs.hp) := nr rfl
@[simp] theorem pc_Bench_forth_1 (D : Nat) (x0 : PV) (fs : FS) : pcall (EV D) 220 [x0] fs = R.up fs (RUN D 220 [x0, (.int 1)] fs.hp) := nr rfl
theorem R_Bench_is_next (D : Nat) (x0 : PV) (h : Hb) : RUN (D + 1) 221 [x0] h = endN (evSs (EV D) b_Bench_is_next ⟨[.val x0, .un, .un], h⟩) := (RUN_succ D 221 _ h).trans rfl
@[simp] theorem pf_Bench_is_next : plainFn tab 221 = true := nr rfl
@[simp] theorem pc_Bench_is_next (D : Nat) (vs : List PV) (fs : FS) : pcall (EV D) 221 vs fs = R.up fs (RUN D 221 vs fs.hp) := congrArg (fun z => R.up fs (RUN D 221 z fs.hp)) (dft_nil tf_221 rfl vs)
theorem R_Bench_back (D : Nat) (x0 x1 : PV) (h : Hb) : RUN (D + 1) 222 [x0, x1] h = endN (evSs (EV D) b_Bench_back ⟨[.val x0, .val x1, .un], h⟩) := (RUN_succ D 222 _ h).trans rfl
@[simp] theorem pf_Bench_back : plainFn tab 222 = true := nr rfl
@[simp] theorem pc_Bench_back_2 (D : Nat) (x0 x1 : PV) (fs : FS) : pcall (EV D) 222 [x0, x1] fs = R.up fs (RUN D 222 [x0, x1] fs.hp) := nr rfl
@[simp] theorem pc_Bench_back_1 (D : Nat) (x0 : PV) (fs : FS) : pcall (EV D) 222 [x0] fs = R.up fs (RUN D 222 [x0, (.int 1)] fs.hp) := nr rfl
theorem R_Bench_done (D : Nat) (x0 : PV) (h : Hb) : RUN (D + 1) 223 [x0] h = endN (evSs (EV D) b_Bench_done ⟨[.val x0], h⟩) := (RUN_succ D 223 _ h).trans rfl
@[simp] theorem pf_Bench_done : plainFn tab 223 = true := nr rfl
@[simp] theorem pc_Bench_done (D : Nat) (vs : List PV) (fs : FS) : pcall (EV D) 223 vs fs = R.up fs (RUN D 223 vs fs.hp) := congrArg (fun z => R.up fs (RUN D 223 z fs.hp)) (dft_nil tf_223 rfl vs)
theorem R_Bench_how (D : Nat) (x0 : PV) (h : Hb) : RUN (D + 1) 224 [x0] h = endN (evSs (EV D) b_Bench_how ⟨[.val x0], h⟩) := (RUN_succ D 224 _ h).trans rfl
@[simp] theorem pf_Bench_how : plainFn tab 224 = true := nr rfl
@[simp] theorem pc_Bench_how (D : Nat) (vs : List PV) (fs : FS) : pcall (EV D) 224 vs fs = R.up fs (RUN D 224 vs fs.hp) := congrArg (fun z => R.up fs (RUN D 224 z fs.hp)) (dft_nil tf_224 rfl vs)
theorem R_Bench_came (D : Nat) (x0 : PV) (h : Hb) : RUN (D + 1) 225 [x0] h = endN (evSs (EV D) b_Bench_came ⟨[.val x0], h⟩) := (RUN_succ D 225 _ h).trans rfl
@[simp] theorem pf_Bench_came : plainFn tab 225 = true := nr rfl
@[simp] theorem pc_Bench_came (D : Nat) (vs : List PV) (fs : FS) : pcall (EV D) 225 vs fs = R.up fs (RUN D 225 vs fs.hp) := congrArg (fun z => R.up fs (RUN D 225 z fs.hp)) (dft_nil tf_225 rfl vs)
theorem R_Bench_height (D : Nat) (x0 : PV) (h : Hb) : RUN (D + 1) 226 [x0] h = endN (evSs (EV D) b_Bench_height ⟨[.val x0], h⟩) := (RUN_succ D 226 _ h).trans rfl
@[simp] theorem pf_Bench_height : plainFn tab 226 = true := nr rfl
@[simp] theorem pc_Bench_height (D : Nat) (vs : List PV) (fs : FS) : pcall (EV D) 226 vs fs = R.up fs (RUN D 226 vs fs.hp) := congrArg (fun z => R.up fs (RUN D 226 z fs.hp)) (dft_nil tf_226 rfl vs)
theorem R_Bench_shown (D : Nat) (x0 : PV) (h : Hb) : RUN (D + 1) 227 [x0] h = endN (evSs (EV D) b_Bench_shown ⟨[.val x0], h⟩) := (RUN_succ D 227 _ h).trans rfl
@[simp] theorem pf_Bench_shown : plainFn tab 227 = true := nr rfl
@[simp] theorem pc_Bench_shown (D : Nat) (vs : List PV) (fs : FS) : pcall (EV D) 227 vs fs = R.up fs (RUN D 227 vs fs.hp) := congrArg (fun z => R.up fs (RUN D 227 z fs.hp)) (dft_nil tf_227 rfl vs)
theorem R_Bench_tally (D : Nat) (x0 : PV) (h : Hb) : RUN (D + 1) 228 [x0] h = endN (evSs (EV D) b_Bench_tally ⟨[.val x0], h⟩) := (RUN_succ D 228 _ h).trans rfl
@[simp] theorem pc_Bench_tally (D : Nat) (vs : List PV) (fs : FS) : fcall (EV D) 228 vs fs = R.up fs (RUN D 228 vs fs.hp) := congrArg (fun z => R.up fs (RUN D 228 z fs.hp)) (dft_nil tf_228 rfl vs)
theorem R_Bench_mark (D : Nat) (x0 x1 : PV) (h : Hb) : RUN (D + 1) 229 [x0, x1] h = endN (evSs (EV D) b_Bench_mark ⟨[.val x0, .val x1], h⟩) := (RUN_succ D 229 _ h).trans rfl
@[simp] theorem pf_Bench_mark : plainFn tab 229 = true := nr rfl
@[simp] theorem pc_Bench_mark (D : Nat) (vs : List PV) (fs : FS) : pcall (EV D) 229 vs fs = R.up fs (RUN D 229 vs fs.hp) := congrArg (fun z => R.up fs (RUN D 229 z fs.hp)) (dft_nil tf_229 rfl vs)
theorem R_Bench_to (D : Nat) (x0 x1 : PV) (h : Hb) : RUN (D + 1) 230 [x0, x1] h = endN (evSs (EV D) b_Bench_to ⟨[.val x0, .val x1], h⟩) := (RUN_succ D 230 _ h).trans rfl
@[simp] theorem pf_Bench_to : plainFn tab 230 = true := nr rfl
@[simp] theorem pc_Bench_to (D : Nat) (vs : List PV) (fs : FS) : pcall (EV D) 230 vs fs = R.up fs (RUN D 230 vs fs.hp) := congrArg (fun z => R.up fs (RUN D 230 z fs.hp)) (dft_nil tf_230 rfl vs)
theorem R_Bench_marks (D : Nat) (x0 : PV) (h : Hb) : RUN (D + 1) 231 [x0] h = endN (evSs (EV D) b_Bench_marks ⟨[.val x0, .un, .un], h⟩) := (RUN_succ D 231 _ h).trans rfl
@[simp] theorem pc_Bench_marks (D : Nat) (vs : List PV) (fs : FS) : fcall (EV D) 231 vs fs = R.up fs (RUN D 231 vs fs.hp) := congrArg (fun z => R.up fs (RUN D 231 z fs.hp)) (dft_nil tf_231 rfl vs)
theorem R_Bench_twin (D : Nat) (x0 : PV) (h : Hb) : RUN (D + 1) 232 [x0] h = endN (evSs (EV D) b_Bench_twin ⟨[.val x0, .un], h⟩) := (RUN_succ D 232 _ h).trans rfl
@[simp] theorem pf_Bench_twin : plainFn tab 232 = true := nr rfl
@[simp] theorem pc_Bench_twin (D : Nat) (vs : List PV) (fs : FS) : pcall (EV D) 232 vs fs = R.up fs (RUN D 232 vs fs.hp) := congrArg (fun z => R.up fs (RUN D 232 z fs.hp)) (dft_nil tf_232 rfl vs)
theorem R__law_state (D : Nat) (x0 : PV) (h : Hb) : RUN (D + 1) 300 [x0] h = endN (evSs (EV D) b__law_state ⟨[.val x0, .un, .un], h⟩) := (RUN_succ D 300 _ h).trans rfl
@[simp] theorem pf__law_state : plainFn tab 300 = true := nr rfl
@[simp] theorem pc__law_state (D : Nat) (vs : List PV) (fs : FS) : pcall (EV D) 300 vs fs = R.up fs (RUN D 300 vs fs.hp) := congrArg (fun z => R.up fs (RUN D 300 z fs.hp)) (dft_nil tf_300 rfl vs)
theorem R__law_draw (D : Nat) (x0 x1 : PV) (h : Hb) : RUN (D + 1) 301 [x0, x1] h = endN (evSs (EV D) b__law_draw ⟨[.val x0, .val x1, .un, .un, .un], h⟩) := (RUN_succ D 301 _ h).trans rfl
@[simp] theorem pf__law_draw : plainFn tab 301 = true := nr rfl
@[simp] theorem pc__law_draw (D : Nat) (vs : List PV) (fs : FS) : pcall (EV D) 301 vs fs = R.up fs (RUN D 301 vs fs.hp) := congrArg (fun z => R.up fs (RUN D 301 z fs.hp)) (dft_nil tf_301 rfl vs)
theorem R__law_name (D : Nat) (x0 x1 : PV) (h : Hb) : RUN (D + 1) 302 [x0, x1] h = endN (evSs (EV D) b__law_name ⟨[.val x0, .val x1, .un, .un, .un], h⟩) := (RUN_succ D 302 _ h).trans rfl
@[simp] theorem pf__law_name : plainFn tab 302 = true := nr rfl
@[simp] theorem pc__law_name (D : Nat) (vs : List PV) (fs : FS) : pcall (EV D) 302 vs fs = R.up fs (RUN D 302 vs fs.hp) := congrArg (fun z => R.up fs (RUN D 302 z fs.hp)) (dft_nil tf_302 rfl vs)
theorem R__law_number (D : Nat) (x0 : PV) (h : Hb) : RUN (D + 1) 303 [x0] h = endN (evSs (EV D) b__law_number ⟨[.val x0, .un, .un, .un], h⟩) := (RUN_succ D 303 _ h).trans rfl
@[simp] theorem pf__law_number : plainFn tab 303 = true := nr rfl
@[simp] theorem pc__law_number (D : Nat) (vs : List PV) (fs : FS) : pcall (EV D) 303 vs fs = R.up fs (RUN D 303 vs fs.hp) := congrArg (fun z => R.up fs (RUN D 303 z fs.hp)) (dft_nil tf_303 rfl vs)
theorem R__law_leaf (D : Nat) (x0 x1 : PV) (h : Hb) : RUN (D + 1) 304 [x0, x1] h = endN (evSs (EV D) b__law_leaf ⟨[.val x0, .val x1, .un], h⟩) := (RUN_succ D 304 _ h).trans rfl
@[simp] theorem pf__law_leaf : plainFn tab 304 = true := nr rfl
@[simp] theorem pc__law_leaf (D : Nat) (vs : List PV) (fs : FS) : pcall (EV D) 304 vs fs = R.up fs (RUN D 304 vs fs.hp) := congrArg (fun z => R.up fs (RUN D 304 z fs.hp)) (dft_nil tf_304 rfl vs)
theorem R__law_any (D : Nat) (x0 x1 x2 : PV) (h : Hb) : RUN (D + 1) 305 [x0, x1, x2] h = endN (evSs (EV D) b__law_any ⟨[.val x0, .val x1, .val x2, .un, .un, .un, .un, .un], h⟩) := (RUN_succ D 305 _ h).trans rfl
@[simp] theorem pf__law_any : plainFn tab 305 = true := nr rfl
@[simp] theorem pc__law_any (D : Nat) (vs : List PV) (fs : FS) : pcall (EV D) 305 vs fs = R.up fs (RUN D 305 vs fs.hp) := congrArg (fun z => R.up fs (RUN D 305 z fs.hp)) (dft_nil tf_305 rfl vs)
theorem R__law_doubled (D : Nat) (x0 x1 x2 : PV) (h : Hb) : RUN (D + 1) 306 [x0, x1, x2] h = endN (evSs (EV D) b__law_doubled ⟨[.val x0, .val x1, .val x2, .un, .un, .un, .un], h⟩) := (RUN_succ D 306 _ h).trans rfl
@[simp] theorem pf__law_doubled : plainFn tab 306 = true := nr rfl
@[simp] theorem pc__law_doubled (D : Nat) (vs : List PV) (fs : FS) : pcall (EV D) 306 vs fs = R.up fs (RUN D 306 vs fs.hp) := congrArg (fun z => R.up fs (RUN D 306 z fs.hp)) (dft_nil tf_306 rfl vs)
theorem R__law_term (D : Nat) (x0 : PV) (h : Hb) : RUN (D + 1) 307 [x0] h = endN (evSs (EV D) b__law_term ⟨[.val x0, .un, .un, .un, .un, .un, .un, .un], h⟩) := (RUN_succ D 307 _ h).trans rfl
@[simp] theorem pf__law_term : plainFn tab 307 = true := nr rfl
@[simp] theorem pc__law_term (D : Nat) (vs : List PV) (fs : FS) : pcall (EV D) 307 vs fs = R.up fs (RUN D 307 vs fs.hp) := congrArg (fun z => R.up fs (RUN D 307 z fs.hp)) (dft_nil tf_307 rfl vs)
theorem R__law_shown (D : Nat) (x0 : PV) (h : Hb) : RUN (D + 1) 308 [x0] h = endN (evSs (EV D) b__law_shown ⟨[.val x0, .un], h⟩) := (RUN_succ D 308 _ h).trans rfl
@[simp] theorem pf__law_shown : plainFn tab 308 = true := nr rfl
@[simp] theorem pc__law_shown (D : Nat) (vs : List PV) (fs : FS) : pcall (EV D) 308 vs fs = R.up fs (RUN D 308 vs fs.hp) := congrArg (fun z => R.up fs (RUN D 308 z fs.hp)) (dft_nil tf_308 rfl vs)
theorem R__law_stands (D : Nat) (x0 x1 x2 : PV) (h : Hb) : RUN (D + 1) 309 [x0, x1, x2] h = endN (evSs (EV D) b__law_stands ⟨[.val x0, .val x1, .val x2, .un, .un, .un, .un, .un, .un, .un], h⟩) := (RUN_succ D 309 _ h).trans rfl
@[simp] theorem pf__law_stands : plainFn tab 309 = true := nr rfl
@[simp] theorem pc__law_stands (D : Nat) (vs : List PV) (fs : FS) : pcall (EV D) 309 vs fs = R.up fs (RUN D 309 vs fs.hp) := congrArg (fun z => R.up fs (RUN D 309 z fs.hp)) (dft_nil tf_309 rfl vs)
theorem R__law_marks (D : Nat) (x0 : PV) (h : Hb) : RUN (D + 1) 310 [x0] h = endN (evSs (EV D) b__law_marks ⟨[.val x0, .un, .un, .un, .un, .un, .un, .un, .un, .un, .un, .un, .un], h⟩) := (RUN_succ D 310 _ h).trans rfl
@[simp] theorem pf__law_marks : plainFn tab 310 = true := nr rfl
@[simp] theorem pc__law_marks (D : Nat) (vs : List PV) (fs : FS) : pcall (EV D) 310 vs fs = R.up fs (RUN D 310 vs fs.hp) := congrArg (fun z => R.up fs (RUN D 310 z fs.hp)) (dft_nil tf_310 rfl vs)
theorem R__law_done (D : Nat) (x0 x1 x2 x3 x4 : PV) (h : Hb) : RUN (D + 1) 311 [x0, x1, x2, x3, x4] h = endN (evSs (EV D) b__law_done ⟨[.val x0, .val x1, .val x2, .val x3, .val x4], h⟩) := (RUN_succ D 311 _ h).trans rfl
@[simp] theorem pf__law_done : plainFn tab 311 = true := nr rfl
@[simp] theorem pc__law_done (D : Nat) (vs : List PV) (fs : FS) : pcall (EV D) 311 vs fs = R.up fs (RUN D 311 vs fs.hp) := congrArg (fun z => R.up fs (RUN D 311 z fs.hp)) (dft_nil tf_311 rfl vs)
theorem R__law_right (D : Nat) (x0 x1 x2 x3 : PV) (h : Hb) : RUN (D + 1) 312 [x0, x1, x2, x3] h = endN (evSs (EV D) b__law_right ⟨[.val x0, .val x1, .val x2, .val x3, .un], h⟩) := (RUN_succ D 312 _ h).trans rfl
@[simp] theorem pf__law_right : plainFn tab 312 = true := nr rfl
@[simp] theorem pc__law_right (D : Nat) (vs : List PV) (fs : FS) : pcall (EV D) 312 vs fs = R.up fs (RUN D 312 vs fs.hp) := congrArg (fun z => R.up fs (RUN D 312 z fs.hp)) (dft_nil tf_312 rfl vs)
theorem R_law (D : Nat) (x0 : PV) (h : Hb) : RUN (D + 1) 313 [x0] h = endN (evSs (EV D) b_law ⟨[.val x0, .un, .un, .un, .un, .un, .un, .un, .un, .un, .un, .un, .un, .un, .un, .un, .un], h⟩) := (RUN_succ D 313 _ h).trans rfl
@[simp] theorem pf_law : plainFn tab 313 = true := nr rfl
@[simp] theorem pc_law (D : Nat) (vs : List PV) (fs : FS) : pcall (EV D) 313 vs fs = R.up fs (RUN D 313 vs fs.hp) := congrArg (fun z => R.up fs (RUN D 313 z fs.hp)) (dft_nil tf_313 rfl vs)
@[simp] theorem mk_Term (D : Nat) (fs : FS) : mkF (EV D) 14 [] fs = .ok (.ins 14 []) fs := nr rfl
@[simp] theorem mk_Open (D : Nat) (fs : FS) : mkF (EV D) 15 [] fs = .ok (.ins 15 []) fs := nr rfl
@[simp] theorem mk_Name (D : Nat) (vs : List PV) (fs : FS) : mkF (EV D) 16 vs fs = R.upI fs (RUN (D - 1) 20 vs fs.hp) := congrArg (fun z => R.upI fs (RUN (D - 1) 20 z fs.hp)) (dft_nil tf_20 rfl vs)
@[simp] theorem mk_Number (D : Nat) (vs : List PV) (fs : FS) : mkF (EV D) 17 vs fs = R.upI fs (RUN (D - 1) 25 vs fs.hp) := congrArg (fun z => R.upI fs (RUN (D - 1) 25 z fs.hp)) (dft_nil tf_25 rfl vs)
@[simp] theorem mk_Maker (D : Nat) (vs : List PV) (fs : FS) : mkF (EV D) 18 vs fs = R.upI fs (RUN (D - 1) 28 vs fs.hp) := congrArg (fun z => R.upI fs (RUN (D - 1) 28 z fs.hp)) (dft_nil tf_28 rfl vs)
@[simp] theorem mk_Give (D : Nat) (vs : List PV) (fs : FS) : mkF (EV D) 19 vs fs = R.upI fs (RUN (D - 1) 34 vs fs.hp) := congrArg (fun z => R.upI fs (RUN (D - 1) 34 z fs.hp)) (dft_nil tf_34 rfl vs)
@[simp] theorem mk_Sum (D : Nat) (vs : List PV) (fs : FS) : mkF (EV D) 20 vs fs = R.upI fs (RUN (D - 1) 39 vs fs.hp) := congrArg (fun z => R.upI fs (RUN (D - 1) 39 z fs.hp)) (dft_nil tf_39 rfl vs)
@[simp] theorem mk_Choice (D : Nat) (vs : List PV) (fs : FS) : mkF (EV D) 21 vs fs = R.upI fs (RUN (D - 1) 44 vs fs.hp) := congrArg (fun z => R.upI fs (RUN (D - 1) 44 z fs.hp)) (dft_nil tf_44 rfl vs)
@[simp] theorem mk_Again (D : Nat) (vs : List PV) (fs : FS) : mkF (EV D) 22 vs fs = R.upI fs (RUN (D - 1) 49 vs fs.hp) := congrArg (fun z => R.upI fs (RUN (D - 1) 49 z fs.hp)) (dft_nil tf_49 rfl vs)
@[simp] theorem mk_Late (D : Nat) (vs : List PV) (fs : FS) : mkF (EV D) 23 vs fs = R.upI fs (RUN (D - 1) 72 vs fs.hp) := congrArg (fun z => R.upI fs (RUN (D - 1) 72 z fs.hp)) (dft_nil tf_72 rfl vs)
@[simp] theorem mk_GivenWait (D : Nat) (vs : List PV) (fs : FS) : mkF (EV D) 25 vs fs = R.upI fs (RUN (D - 1) 80 vs fs.hp) := congrArg (fun z => R.upI fs (RUN (D - 1) 80 z fs.hp)) (dft_nil tf_80 rfl vs)
@[simp] theorem mk_OtherWait (D : Nat) (vs : List PV) (fs : FS) : mkF (EV D) 26 vs fs = R.upI fs (RUN (D - 1) 85 vs fs.hp) := congrArg (fun z => R.upI fs (RUN (D - 1) 85 z fs.hp)) (dft_nil tf_85 rfl vs)
@[simp] theorem mk_NumberWait (D : Nat) (vs : List PV) (fs : FS) : mkF (EV D) 27 vs fs = R.upI fs (RUN (D - 1) 90 vs fs.hp) := congrArg (fun z => R.upI fs (RUN (D - 1) 90 z fs.hp)) (dft_nil tf_90 rfl vs)
@[simp] theorem mk_ChoiceWait (D : Nat) (vs : List PV) (fs : FS) : mkF (EV D) 28 vs fs = R.upI fs (RUN (D - 1) 95 vs fs.hp) := congrArg (fun z => R.upI fs (RUN (D - 1) 95 z fs.hp)) (dft_nil tf_95 rfl vs)
@[simp] theorem mk_State (D : Nat) (vs : List PV) (fs : FS) : mkF (EV D) 29 vs fs = R.upI fs (RUN (D - 1) 100 vs fs.hp) := congrArg (fun z => R.upI fs (RUN (D - 1) 100 z fs.hp)) (dft_nil tf_100 rfl vs)
@[simp] theorem is_Term_14 (h : Hb) (vs : List PV) : isOne tab h (.ins 14 vs) (.cls 14) = some true := nr rfl
@[simp] theorem is_Term_16 (h : Hb) (vs : List PV) : isOne tab h (.ins 14 vs) (.cls 16) = some false := nr rfl
@[simp] theorem is_Term_17 (h : Hb) (vs : List PV) : isOne tab h (.ins 14 vs) (.cls 17) = some false := nr rfl
@[simp] theorem is_Term_18 (h : Hb) (vs : List PV) : isOne tab h (.ins 14 vs) (.cls 18) = some false := nr rfl
@[simp] theorem is_Term_19 (h : Hb) (vs : List PV) : isOne tab h (.ins 14 vs) (.cls 19) = some false := nr rfl
@[simp] theorem is_Term_20 (h : Hb) (vs : List PV) : isOne tab h (.ins 14 vs) (.cls 20) = some false := nr rfl
@[simp] theorem is_Term_21 (h : Hb) (vs : List PV) : isOne tab h (.ins 14 vs) (.cls 21) = some false := nr rfl
@[simp] theorem is_Term_22 (h : Hb) (vs : List PV) : isOne tab h (.ins 14 vs) (.cls 22) = some false := nr rfl
@[simp] theorem is_Term_40 (h : Hb) (vs : List PV) : isOne tab h (.ins 14 vs) (.cls 40) = some false := nr rfl
@[simp] theorem it_Term_bool (h : Hb) (vs : List PV) : isOne tab h (.ins 14 vs) (.ty "bool") = some false := nr rfl
@[simp] theorem it_Term_int (h : Hb) (vs : List PV) : isOne tab h (.ins 14 vs) (.ty "int") = some false := nr rfl
@[simp] theorem it_Term_str (h : Hb) (vs : List PV) : isOne tab h (.ins 14 vs) (.ty "str") = some false := nr rfl
@[simp] theorem it_Term_tuple (h : Hb) (vs : List PV) : isOne tab h (.ins 14 vs) (.ty "tuple") = some false := nr rfl
@[simp] theorem is_Open_14 (h : Hb) (vs : List PV) : isOne tab h (.ins 15 vs) (.cls 14) = some true := nr rfl
@[simp] theorem is_Open_16 (h : Hb) (vs : List PV) : isOne tab h (.ins 15 vs) (.cls 16) = some false := nr rfl
@[simp] theorem is_Open_17 (h : Hb) (vs : List PV) : isOne tab h (.ins 15 vs) (.cls 17) = some false := nr rfl
@[simp] theorem is_Open_18 (h : Hb) (vs : List PV) : isOne tab h (.ins 15 vs) (.cls 18) = some false := nr rfl
@[simp] theorem is_Open_19 (h : Hb) (vs : List PV) : isOne tab h (.ins 15 vs) (.cls 19) = some false := nr rfl
@[simp] theorem is_Open_20 (h : Hb) (vs : List PV) : isOne tab h (.ins 15 vs) (.cls 20) = some false := nr rfl
@[simp] theorem is_Open_21 (h : Hb) (vs : List PV) : isOne tab h (.ins 15 vs) (.cls 21) = some false := nr rfl
@[simp] theorem is_Open_22 (h : Hb) (vs : List PV) : isOne tab h (.ins 15 vs) (.cls 22) = some false := nr rfl
@[simp] theorem is_Open_40 (h : Hb) (vs : List PV) : isOne tab h (.ins 15 vs) (.cls 40) = some false := nr rfl
@[simp] theorem it_Open_bool (h : Hb) (vs : List PV) : isOne tab h (.ins 15 vs) (.ty "bool") = some false := nr rfl
@[simp] theorem it_Open_int (h : Hb) (vs : List PV) : isOne tab h (.ins 15 vs) (.ty "int") = some false := nr rfl
@[simp] theorem it_Open_str (h : Hb) (vs : List PV) : isOne tab h (.ins 15 vs) (.ty "str") = some false := nr rfl
@[simp] theorem it_Open_tuple (h : Hb) (vs : List PV) : isOne tab h (.ins 15 vs) (.ty "tuple") = some false := nr rfl
@[simp] theorem fd_Name_0 (h : Hb) (x0 : PV) : fldV tab h (.ins 16 [x0]) 1 = some x0 := nr rfl
@[simp] theorem is_Name_14 (h : Hb) (vs : List PV) : isOne tab h (.ins 16 vs) (.cls 14) = some true := nr rfl
@[simp] theorem is_Name_16 (h : Hb) (vs : List PV) : isOne tab h (.ins 16 vs) (.cls 16) = some true := nr rfl
@[simp] theorem is_Name_17 (h : Hb) (vs : List PV) : isOne tab h (.ins 16 vs) (.cls 17) = some false := nr rfl
@[simp] theorem is_Name_18 (h : Hb) (vs : List PV) : isOne tab h (.ins 16 vs) (.cls 18) = some false := nr rfl
@[simp] theorem is_Name_19 (h : Hb) (vs : List PV) : isOne tab h (.ins 16 vs) (.cls 19) = some false := nr rfl
@[simp] theorem is_Name_20 (h : Hb) (vs : List PV) : isOne tab h (.ins 16 vs) (.cls 20) = some false := nr rfl
@[simp] theorem is_Name_21 (h : Hb) (vs : List PV) : isOne tab h (.ins 16 vs) (.cls 21) = some false := nr rfl
@[simp] theorem is_Name_22 (h : Hb) (vs : List PV) : isOne tab h (.ins 16 vs) (.cls 22) = some false := nr rfl
@[simp] theorem is_Name_40 (h : Hb) (vs : List PV) : isOne tab h (.ins 16 vs) (.cls 40) = some false := nr rfl
@[simp] theorem it_Name_bool (h : Hb) (vs : List PV) : isOne tab h (.ins 16 vs) (.ty "bool") = some false := nr rfl
@[simp] theorem it_Name_int (h : Hb) (vs : List PV) : isOne tab h (.ins 16 vs) (.ty "int") = some false := nr rfl
@[simp] theorem it_Name_str (h : Hb) (vs : List PV) : isOne tab h (.ins 16 vs) (.ty "str") = some false := nr rfl
@[simp] theorem it_Name_tuple (h : Hb) (vs : List PV) : isOne tab h (.ins 16 vs) (.ty "tuple") = some false := nr rfl
@[simp] theorem fd_Number_0 (h : Hb) (x0 : PV) : fldV tab h (.ins 17 [x0]) 4 = some x0 := nr rfl
@[simp] theorem is_Number_14 (h : Hb) (vs : List PV) : isOne tab h (.ins 17 vs) (.cls 14) = some true := nr rfl
@[simp] theorem is_Number_16 (h : Hb) (vs : List PV) : isOne tab h (.ins 17 vs) (.cls 16) = some false := nr rfl
@[simp] theorem is_Number_17 (h : Hb) (vs : List PV) : isOne tab h (.ins 17 vs) (.cls 17) = some true := nr rfl
@[simp] theorem is_Number_18 (h : Hb) (vs : List PV) : isOne tab h (.ins 17 vs) (.cls 18) = some false := nr rfl
@[simp] theorem is_Number_19 (h : Hb) (vs : List PV) : isOne tab h (.ins 17 vs) (.cls 19) = some false := nr rfl
@[simp] theorem is_Number_20 (h : Hb) (vs : List PV) : isOne tab h (.ins 17 vs) (.cls 20) = some false := nr rfl
@[simp] theorem is_Number_21 (h : Hb) (vs : List PV) : isOne tab h (.ins 17 vs) (.cls 21) = some false := nr rfl
@[simp] theorem is_Number_22 (h : Hb) (vs : List PV) : isOne tab h (.ins 17 vs) (.cls 22) = some false := nr rfl
@[simp] theorem is_Number_40 (h : Hb) (vs : List PV) : isOne tab h (.ins 17 vs) (.cls 40) = some false := nr rfl
@[simp] theorem it_Number_bool (h : Hb) (vs : List PV) : isOne tab h (.ins 17 vs) (.ty "bool") = some false := nr rfl
@[simp] theorem it_Number_int (h : Hb) (vs : List PV) : isOne tab h (.ins 17 vs) (.ty "int") = some false := nr rfl
@[simp] theorem it_Number_str (h : Hb) (vs : List PV) : isOne tab h (.ins 17 vs) (.ty "str") = some false := nr rfl
@[simp] theorem it_Number_tuple (h : Hb) (vs : List PV) : isOne tab h (.ins 17 vs) (.ty "tuple") = some false := nr rfl
@[simp] theorem fd_Maker_0 (h : Hb) (x0 x1 : PV) : fldV tab h (.ins 18 [x0, x1]) 1 = some x0 := nr rfl
@[simp] theorem fd_Maker_1 (h : Hb) (x0 x1 : PV) : fldV tab h (.ins 18 [x0, x1]) 5 = some x1 := nr rfl
@[simp] theorem is_Maker_14 (h : Hb) (vs : List PV) : isOne tab h (.ins 18 vs) (.cls 14) = some true := nr rfl
@[simp] theorem is_Maker_16 (h : Hb) (vs : List PV) : isOne tab h (.ins 18 vs) (.cls 16) = some false := nr rfl
@[simp] theorem is_Maker_17 (h : Hb) (vs : List PV) : isOne tab h (.ins 18 vs) (.cls 17) = some false := nr rfl
@[simp] theorem is_Maker_18 (h : Hb) (vs : List PV) : isOne tab h (.ins 18 vs) (.cls 18) = some true := nr rfl
@[simp] theorem is_Maker_19 (h : Hb) (vs : List PV) : isOne tab h (.ins 18 vs) (.cls 19) = some false := nr rfl
@[simp] theorem is_Maker_20 (h : Hb) (vs : List PV) : isOne tab h (.ins 18 vs) (.cls 20) = some false := nr rfl
@[simp] theorem is_Maker_21 (h : Hb) (vs : List PV) : isOne tab h (.ins 18 vs) (.cls 21) = some false := nr rfl
@[simp] theorem is_Maker_22 (h : Hb) (vs : List PV) : isOne tab h (.ins 18 vs) (.cls 22) = some false := nr rfl
@[simp] theorem is_Maker_40 (h : Hb) (vs : List PV) : isOne tab h (.ins 18 vs) (.cls 40) = some false := nr rfl
@[simp] theorem it_Maker_bool (h : Hb) (vs : List PV) : isOne tab h (.ins 18 vs) (.ty "bool") = some false := nr rfl
@[simp] theorem it_Maker_int (h : Hb) (vs : List PV) : isOne tab h (.ins 18 vs) (.ty "int") = some false := nr rfl
@[simp] theorem it_Maker_str (h : Hb) (vs : List PV) : isOne tab h (.ins 18 vs) (.ty "str") = some false := nr rfl
@[simp] theorem it_Maker_tuple (h : Hb) (vs : List PV) : isOne tab h (.ins 18 vs) (.ty "tuple") = some false := nr rfl
@[simp] theorem fd_Give_0 (h : Hb) (x0 x1 : PV) : fldV tab h (.ins 19 [x0, x1]) 6 = some x0 := nr rfl
@[simp] theorem fd_Give_1 (h : Hb) (x0 x1 : PV) : fldV tab h (.ins 19 [x0, x1]) 7 = some x1 := nr rfl
@[simp] theorem is_Give_14 (h : Hb) (vs : List PV) : isOne tab h (.ins 19 vs) (.cls 14) = some true := nr rfl
@[simp] theorem is_Give_16 (h : Hb) (vs : List PV) : isOne tab h (.ins 19 vs) (.cls 16) = some false := nr rfl
@[simp] theorem is_Give_17 (h : Hb) (vs : List PV) : isOne tab h (.ins 19 vs) (.cls 17) = some false := nr rfl
@[simp] theorem is_Give_18 (h : Hb) (vs : List PV) : isOne tab h (.ins 19 vs) (.cls 18) = some false := nr rfl
@[simp] theorem is_Give_19 (h : Hb) (vs : List PV) : isOne tab h (.ins 19 vs) (.cls 19) = some true := nr rfl
@[simp] theorem is_Give_20 (h : Hb) (vs : List PV) : isOne tab h (.ins 19 vs) (.cls 20) = some false := nr rfl
@[simp] theorem is_Give_21 (h : Hb) (vs : List PV) : isOne tab h (.ins 19 vs) (.cls 21) = some false := nr rfl
@[simp] theorem is_Give_22 (h : Hb) (vs : List PV) : isOne tab h (.ins 19 vs) (.cls 22) = some false := nr rfl
@[simp] theorem is_Give_40 (h : Hb) (vs : List PV) : isOne tab h (.ins 19 vs) (.cls 40) = some false := nr rfl
@[simp] theorem it_Give_bool (h : Hb) (vs : List PV) : isOne tab h (.ins 19 vs) (.ty "bool") = some false := nr rfl
@[simp] theorem it_Give_int (h : Hb) (vs : List PV) : isOne tab h (.ins 19 vs) (.ty "int") = some false := nr rfl
@[simp] theorem it_Give_str (h : Hb) (vs : List PV) : isOne tab h (.ins 19 vs) (.ty "str") = some false := nr rfl
@[simp] theorem it_Give_tuple (h : Hb) (vs : List PV) : isOne tab h (.ins 19 vs) (.ty "tuple") = some false := nr rfl
@[simp] theorem fd_Sum_0 (h : Hb) (x0 x1 x2 : PV) : fldV tab h (.ins 20 [x0, x1, x2]) 8 = some x0 := nr rfl
@[simp] theorem fd_Sum_1 (h : Hb) (x0 x1 x2 : PV) : fldV tab h (.ins 20 [x0, x1, x2]) 9 = some x1 := nr rfl
@[simp] theorem fd_Sum_2 (h : Hb) (x0 x1 x2 : PV) : fldV tab h (.ins 20 [x0, x1, x2]) 10 = some x2 := nr rfl
@[simp] theorem is_Sum_14 (h : Hb) (vs : List PV) : isOne tab h (.ins 20 vs) (.cls 14) = some true := nr rfl
@[simp] theorem is_Sum_16 (h : Hb) (vs : List PV) : isOne tab h (.ins 20 vs) (.cls 16) = some false := nr rfl
@[simp] theorem is_Sum_17 (h : Hb) (vs : List PV) : isOne tab h (.ins 20 vs) (.cls 17) = some false := nr rfl
@[simp] theorem is_Sum_18 (h : Hb) (vs : List PV) : isOne tab h (.ins 20 vs) (.cls 18) = some false := nr rfl
@[simp] theorem is_Sum_19 (h : Hb) (vs : List PV) : isOne tab h (.ins 20 vs) (.cls 19) = some false := nr rfl
@[simp] theorem is_Sum_20 (h : Hb) (vs : List PV) : isOne tab h (.ins 20 vs) (.cls 20) = some true := nr rfl
@[simp] theorem is_Sum_21 (h : Hb) (vs : List PV) : isOne tab h (.ins 20 vs) (.cls 21) = some false := nr rfl
@[simp] theorem is_Sum_22 (h : Hb) (vs : List PV) : isOne tab h (.ins 20 vs) (.cls 22) = some false := nr rfl
@[simp] theorem is_Sum_40 (h : Hb) (vs : List PV) : isOne tab h (.ins 20 vs) (.cls 40) = some false := nr rfl
@[simp] theorem it_Sum_bool (h : Hb) (vs : List PV) : isOne tab h (.ins 20 vs) (.ty "bool") = some false := nr rfl
@[simp] theorem it_Sum_int (h : Hb) (vs : List PV) : isOne tab h (.ins 20 vs) (.ty "int") = some false := nr rfl
@[simp] theorem it_Sum_str (h : Hb) (vs : List PV) : isOne tab h (.ins 20 vs) (.ty "str") = some false := nr rfl
@[simp] theorem it_Sum_tuple (h : Hb) (vs : List PV) : isOne tab h (.ins 20 vs) (.ty "tuple") = some false := nr rfl
@[simp] theorem fd_Choice_0 (h : Hb) (x0 x1 x2 : PV) : fldV tab h (.ins 21 [x0, x1, x2]) 11 = some x0 := nr rfl
@[simp] theorem fd_Choice_1 (h : Hb) (x0 x1 x2 : PV) : fldV tab h (.ins 21 [x0, x1, x2]) 12 = some x1 := nr rfl
@[simp] theorem fd_Choice_2 (h : Hb) (x0 x1 x2 : PV) : fldV tab h (.ins 21 [x0, x1, x2]) 10 = some x2 := nr rfl
@[simp] theorem is_Choice_14 (h : Hb) (vs : List PV) : isOne tab h (.ins 21 vs) (.cls 14) = some true := nr rfl
@[simp] theorem is_Choice_16 (h : Hb) (vs : List PV) : isOne tab h (.ins 21 vs) (.cls 16) = some false := nr rfl
@[simp] theorem is_Choice_17 (h : Hb) (vs : List PV) : isOne tab h (.ins 21 vs) (.cls 17) = some false := nr rfl
@[simp] theorem is_Choice_18 (h : Hb) (vs : List PV) : isOne tab h (.ins 21 vs) (.cls 18) = some false := nr rfl
@[simp] theorem is_Choice_19 (h : Hb) (vs : List PV) : isOne tab h (.ins 21 vs) (.cls 19) = some false := nr rfl
@[simp] theorem is_Choice_20 (h : Hb) (vs : List PV) : isOne tab h (.ins 21 vs) (.cls 20) = some false := nr rfl
@[simp] theorem is_Choice_21 (h : Hb) (vs : List PV) : isOne tab h (.ins 21 vs) (.cls 21) = some true := nr rfl
@[simp] theorem is_Choice_22 (h : Hb) (vs : List PV) : isOne tab h (.ins 21 vs) (.cls 22) = some false := nr rfl
@[simp] theorem is_Choice_40 (h : Hb) (vs : List PV) : isOne tab h (.ins 21 vs) (.cls 40) = some false := nr rfl
@[simp] theorem it_Choice_bool (h : Hb) (vs : List PV) : isOne tab h (.ins 21 vs) (.ty "bool") = some false := nr rfl
@[simp] theorem it_Choice_int (h : Hb) (vs : List PV) : isOne tab h (.ins 21 vs) (.ty "int") = some false := nr rfl
@[simp] theorem it_Choice_str (h : Hb) (vs : List PV) : isOne tab h (.ins 21 vs) (.ty "str") = some false := nr rfl
@[simp] theorem it_Choice_tuple (h : Hb) (vs : List PV) : isOne tab h (.ins 21 vs) (.ty "tuple") = some false := nr rfl
@[simp] theorem fd_Again_0 (h : Hb) (x0 x1 : PV) : fldV tab h (.ins 22 [x0, x1]) 1 = some x0 := nr rfl
@[simp] theorem fd_Again_1 (h : Hb) (x0 x1 : PV) : fldV tab h (.ins 22 [x0, x1]) 5 = some x1 := nr rfl
@[simp] theorem is_Again_14 (h : Hb) (vs : List PV) : isOne tab h (.ins 22 vs) (.cls 14) = some true := nr rfl
@[simp] theorem is_Again_16 (h : Hb) (vs : List PV) : isOne tab h (.ins 22 vs) (.cls 16) = some false := nr rfl
@[simp] theorem is_Again_17 (h : Hb) (vs : List PV) : isOne tab h (.ins 22 vs) (.cls 17) = some false := nr rfl
@[simp] theorem is_Again_18 (h : Hb) (vs : List PV) : isOne tab h (.ins 22 vs) (.cls 18) = some false := nr rfl
@[simp] theorem is_Again_19 (h : Hb) (vs : List PV) : isOne tab h (.ins 22 vs) (.cls 19) = some false := nr rfl
@[simp] theorem is_Again_20 (h : Hb) (vs : List PV) : isOne tab h (.ins 22 vs) (.cls 20) = some false := nr rfl
@[simp] theorem is_Again_21 (h : Hb) (vs : List PV) : isOne tab h (.ins 22 vs) (.cls 21) = some false := nr rfl
@[simp] theorem is_Again_22 (h : Hb) (vs : List PV) : isOne tab h (.ins 22 vs) (.cls 22) = some true := nr rfl
@[simp] theorem is_Again_40 (h : Hb) (vs : List PV) : isOne tab h (.ins 22 vs) (.cls 40) = some false := nr rfl
@[simp] theorem it_Again_bool (h : Hb) (vs : List PV) : isOne tab h (.ins 22 vs) (.ty "bool") = some false := nr rfl
@[simp] theorem it_Again_int (h : Hb) (vs : List PV) : isOne tab h (.ins 22 vs) (.ty "int") = some false := nr rfl
@[simp] theorem it_Again_str (h : Hb) (vs : List PV) : isOne tab h (.ins 22 vs) (.ty "str") = some false := nr rfl
@[simp] theorem it_Again_tuple (h : Hb) (vs : List PV) : isOne tab h (.ins 22 vs) (.ty "tuple") = some false := nr rfl
@[simp] theorem fd_Late_0 (h : Hb) (x0 x1 x2 x3 x4 : PV) : fldV tab h (.ins 23 [x0, x1, x2, x3, x4]) 13 = some x0 := nr rfl
@[simp] theorem fd_Late_1 (h : Hb) (x0 x1 x2 x3 x4 : PV) : fldV tab h (.ins 23 [x0, x1, x2, x3, x4]) 14 = some x1 := nr rfl
@[simp] theorem fd_Late_2 (h : Hb) (x0 x1 x2 x3 x4 : PV) : fldV tab h (.ins 23 [x0, x1, x2, x3, x4]) 15 = some x2 := nr rfl
@[simp] theorem fd_Late_3 (h : Hb) (x0 x1 x2 x3 x4 : PV) : fldV tab h (.ins 23 [x0, x1, x2, x3, x4]) 16 = some x3 := nr rfl
@[simp] theorem fd_Late_4 (h : Hb) (x0 x1 x2 x3 x4 : PV) : fldV tab h (.ins 23 [x0, x1, x2, x3, x4]) 17 = some x4 := nr rfl
@[simp] theorem is_Late_14 (h : Hb) (vs : List PV) : isOne tab h (.ins 23 vs) (.cls 14) = some false := nr rfl
@[simp] theorem is_Late_16 (h : Hb) (vs : List PV) : isOne tab h (.ins 23 vs) (.cls 16) = some false := nr rfl
@[simp] theorem is_Late_17 (h : Hb) (vs : List PV) : isOne tab h (.ins 23 vs) (.cls 17) = some false := nr rfl
@[simp] theorem is_Late_18 (h : Hb) (vs : List PV) : isOne tab h (.ins 23 vs) (.cls 18) = some false := nr rfl
@[simp] theorem is_Late_19 (h : Hb) (vs : List PV) : isOne tab h (.ins 23 vs) (.cls 19) = some false := nr rfl
@[simp] theorem is_Late_20 (h : Hb) (vs : List PV) : isOne tab h (.ins 23 vs) (.cls 20) = some false := nr rfl
@[simp] theorem is_Late_21 (h : Hb) (vs : List PV) : isOne tab h (.ins 23 vs) (.cls 21) = some false := nr rfl
@[simp] theorem is_Late_22 (h : Hb) (vs : List PV) : isOne tab h (.ins 23 vs) (.cls 22) = some false := nr rfl
@[simp] theorem is_Late_40 (h : Hb) (vs : List PV) : isOne tab h (.ins 23 vs) (.cls 40) = some false := nr rfl
@[simp] theorem it_Late_bool (h : Hb) (vs : List PV) : isOne tab h (.ins 23 vs) (.ty "bool") = some false := nr rfl
@[simp] theorem it_Late_int (h : Hb) (vs : List PV) : isOne tab h (.ins 23 vs) (.ty "int") = some false := nr rfl
@[simp] theorem it_Late_str (h : Hb) (vs : List PV) : isOne tab h (.ins 23 vs) (.ty "str") = some false := nr rfl
@[simp] theorem it_Late_tuple (h : Hb) (vs : List PV) : isOne tab h (.ins 23 vs) (.ty "tuple") = some false := nr rfl
@[simp] theorem is_Waiting_14 (h : Hb) (vs : List PV) : isOne tab h (.ins 24 vs) (.cls 14) = some false := nr rfl
@[simp] theorem is_Waiting_16 (h : Hb) (vs : List PV) : isOne tab h (.ins 24 vs) (.cls 16) = some false := nr rfl
@[simp] theorem is_Waiting_17 (h : Hb) (vs : List PV) : isOne tab h (.ins 24 vs) (.cls 17) = some false := nr rfl
@[simp] theorem is_Waiting_18 (h : Hb) (vs : List PV) : isOne tab h (.ins 24 vs) (.cls 18) = some false := nr rfl
@[simp] theorem is_Waiting_19 (h : Hb) (vs : List PV) : isOne tab h (.ins 24 vs) (.cls 19) = some false := nr rfl
@[simp] theorem is_Waiting_20 (h : Hb) (vs : List PV) : isOne tab h (.ins 24 vs) (.cls 20) = some false := nr rfl
@[simp] theorem is_Waiting_21 (h : Hb) (vs : List PV) : isOne tab h (.ins 24 vs) (.cls 21) = some false := nr rfl
@[simp] theorem is_Waiting_22 (h : Hb) (vs : List PV) : isOne tab h (.ins 24 vs) (.cls 22) = some false := nr rfl
@[simp] theorem is_Waiting_40 (h : Hb) (vs : List PV) : isOne tab h (.ins 24 vs) (.cls 40) = some false := nr rfl
@[simp] theorem it_Waiting_bool (h : Hb) (vs : List PV) : isOne tab h (.ins 24 vs) (.ty "bool") = some false := nr rfl
@[simp] theorem it_Waiting_int (h : Hb) (vs : List PV) : isOne tab h (.ins 24 vs) (.ty "int") = some false := nr rfl
@[simp] theorem it_Waiting_str (h : Hb) (vs : List PV) : isOne tab h (.ins 24 vs) (.ty "str") = some false := nr rfl
@[simp] theorem it_Waiting_tuple (h : Hb) (vs : List PV) : isOne tab h (.ins 24 vs) (.ty "tuple") = some false := nr rfl
@[simp] theorem fd_GivenWait_0 (h : Hb) (x0 : PV) : fldV tab h (.ins 25 [x0]) 18 = some x0 := nr rfl
@[simp] theorem is_GivenWait_14 (h : Hb) (vs : List PV) : isOne tab h (.ins 25 vs) (.cls 14) = some false := nr rfl
@[simp] theorem is_GivenWait_16 (h : Hb) (vs : List PV) : isOne tab h (.ins 25 vs) (.cls 16) = some false := nr rfl
@[simp] theorem is_GivenWait_17 (h : Hb) (vs : List PV) : isOne tab h (.ins 25 vs) (.cls 17) = some false := nr rfl
@[simp] theorem is_GivenWait_18 (h : Hb) (vs : List PV) : isOne tab h (.ins 25 vs) (.cls 18) = some false := nr rfl
@[simp] theorem is_GivenWait_19 (h : Hb) (vs : List PV) : isOne tab h (.ins 25 vs) (.cls 19) = some false := nr rfl
@[simp] theorem is_GivenWait_20 (h : Hb) (vs : List PV) : isOne tab h (.ins 25 vs) (.cls 20) = some false := nr rfl
@[simp] theorem is_GivenWait_21 (h : Hb) (vs : List PV) : isOne tab h (.ins 25 vs) (.cls 21) = some false := nr rfl
@[simp] theorem is_GivenWait_22 (h : Hb) (vs : List PV) : isOne tab h (.ins 25 vs) (.cls 22) = some false := nr rfl
@[simp] theorem is_GivenWait_40 (h : Hb) (vs : List PV) : isOne tab h (.ins 25 vs) (.cls 40) = some false := nr rfl
@[simp] theorem it_GivenWait_bool (h : Hb) (vs : List PV) : isOne tab h (.ins 25 vs) (.ty "bool") = some false := nr rfl
@[simp] theorem it_GivenWait_int (h : Hb) (vs : List PV) : isOne tab h (.ins 25 vs) (.ty "int") = some false := nr rfl
@[simp] theorem it_GivenWait_str (h : Hb) (vs : List PV) : isOne tab h (.ins 25 vs) (.ty "str") = some false := nr rfl
@[simp] theorem it_GivenWait_tuple (h : Hb) (vs : List PV) : isOne tab h (.ins 25 vs) (.ty "tuple") = some false := nr rfl
@[simp] theorem fd_OtherWait_0 (h : Hb) (x0 x1 : PV) : fldV tab h (.ins 26 [x0, x1]) 8 = some x0 := nr rfl
@[simp] theorem fd_OtherWait_1 (h : Hb) (x0 x1 : PV) : fldV tab h (.ins 26 [x0, x1]) 18 = some x1 := nr rfl
@[simp] theorem is_OtherWait_14 (h : Hb) (vs : List PV) : isOne tab h (.ins 26 vs) (.cls 14) = some false := nr rfl
@[simp] theorem is_OtherWait_16 (h : Hb) (vs : List PV) : isOne tab h (.ins 26 vs) (.cls 16) = some false := nr rfl
@[simp] theorem is_OtherWait_17 (h : Hb) (vs : List PV) : isOne tab h (.ins 26 vs) (.cls 17) = some false := nr rfl
@[simp] theorem is_OtherWait_18 (h : Hb) (vs : List PV) : isOne tab h (.ins 26 vs) (.cls 18) = some false := nr rfl
@[simp] theorem is_OtherWait_19 (h : Hb) (vs : List PV) : isOne tab h (.ins 26 vs) (.cls 19) = some false := nr rfl
@[simp] theorem is_OtherWait_20 (h : Hb) (vs : List PV) : isOne tab h (.ins 26 vs) (.cls 20) = some false := nr rfl
@[simp] theorem is_OtherWait_21 (h : Hb) (vs : List PV) : isOne tab h (.ins 26 vs) (.cls 21) = some false := nr rfl
@[simp] theorem is_OtherWait_22 (h : Hb) (vs : List PV) : isOne tab h (.ins 26 vs) (.cls 22) = some false := nr rfl
@[simp] theorem is_OtherWait_40 (h : Hb) (vs : List PV) : isOne tab h (.ins 26 vs) (.cls 40) = some false := nr rfl
@[simp] theorem it_OtherWait_bool (h : Hb) (vs : List PV) : isOne tab h (.ins 26 vs) (.ty "bool") = some false := nr rfl
@[simp] theorem it_OtherWait_int (h : Hb) (vs : List PV) : isOne tab h (.ins 26 vs) (.ty "int") = some false := nr rfl
@[simp] theorem it_OtherWait_str (h : Hb) (vs : List PV) : isOne tab h (.ins 26 vs) (.ty "str") = some false := nr rfl
@[simp] theorem it_OtherWait_tuple (h : Hb) (vs : List PV) : isOne tab h (.ins 26 vs) (.ty "tuple") = some false := nr rfl
@[simp] theorem fd_NumberWait_0 (h : Hb) (x0 x1 : PV) : fldV tab h (.ins 27 [x0, x1]) 8 = some x0 := nr rfl
@[simp] theorem fd_NumberWait_1 (h : Hb) (x0 x1 : PV) : fldV tab h (.ins 27 [x0, x1]) 4 = some x1 := nr rfl
@[simp] theorem is_NumberWait_14 (h : Hb) (vs : List PV) : isOne tab h (.ins 27 vs) (.cls 14) = some false := nr rfl
@[simp] theorem is_NumberWait_16 (h : Hb) (vs : List PV) : isOne tab h (.ins 27 vs) (.cls 16) = some false := nr rfl
@[simp] theorem is_NumberWait_17 (h : Hb) (vs : List PV) : isOne tab h (.ins 27 vs) (.cls 17) = some false := nr rfl
@[simp] theorem is_NumberWait_18 (h : Hb) (vs : List PV) : isOne tab h (.ins 27 vs) (.cls 18) = some false := nr rfl
@[simp] theorem is_NumberWait_19 (h : Hb) (vs : List PV) : isOne tab h (.ins 27 vs) (.cls 19) = some false := nr rfl
@[simp] theorem is_NumberWait_20 (h : Hb) (vs : List PV) : isOne tab h (.ins 27 vs) (.cls 20) = some false := nr rfl
@[simp] theorem is_NumberWait_21 (h : Hb) (vs : List PV) : isOne tab h (.ins 27 vs) (.cls 21) = some false := nr rfl
@[simp] theorem is_NumberWait_22 (h : Hb) (vs : List PV) : isOne tab h (.ins 27 vs) (.cls 22) = some false := nr rfl
@[simp] theorem is_NumberWait_40 (h : Hb) (vs : List PV) : isOne tab h (.ins 27 vs) (.cls 40) = some false := nr rfl
@[simp] theorem it_NumberWait_bool (h : Hb) (vs : List PV) : isOne tab h (.ins 27 vs) (.ty "bool") = some false := nr rfl
@[simp] theorem it_NumberWait_int (h : Hb) (vs : List PV) : isOne tab h (.ins 27 vs) (.ty "int") = some false := nr rfl
@[simp] theorem it_NumberWait_str (h : Hb) (vs : List PV) : isOne tab h (.ins 27 vs) (.ty "str") = some false := nr rfl
@[simp] theorem it_NumberWait_tuple (h : Hb) (vs : List PV) : isOne tab h (.ins 27 vs) (.ty "tuple") = some false := nr rfl
@[simp] theorem fd_ChoiceWait_0 (h : Hb) (x0 x1 : PV) : fldV tab h (.ins 28 [x0, x1]) 12 = some x0 := nr rfl
@[simp] theorem fd_ChoiceWait_1 (h : Hb) (x0 x1 : PV) : fldV tab h (.ins 28 [x0, x1]) 10 = some x1 := nr rfl
@[simp] theorem is_ChoiceWait_14 (h : Hb) (vs : List PV) : isOne tab h (.ins 28 vs) (.cls 14) = some false := nr rfl
@[simp] theorem is_ChoiceWait_16 (h : Hb) (vs : List PV) : isOne tab h (.ins 28 vs) (.cls 16) = some false := nr rfl
@[simp] theorem is_ChoiceWait_17 (h : Hb) (vs : List PV) : isOne tab h (.ins 28 vs) (.cls 17) = some false := nr rfl
@[simp] theorem is_ChoiceWait_18 (h : Hb) (vs : List PV) : isOne tab h (.ins 28 vs) (.cls 18) = some false := nr rfl
@[simp] theorem is_ChoiceWait_19 (h : Hb) (vs : List PV) : isOne tab h (.ins 28 vs) (.cls 19) = some false := nr rfl
@[simp] theorem is_ChoiceWait_20 (h : Hb) (vs : List PV) : isOne tab h (.ins 28 vs) (.cls 20) = some false := nr rfl
@[simp] theorem is_ChoiceWait_21 (h : Hb) (vs : List PV) : isOne tab h (.ins 28 vs) (.cls 21) = some false := nr rfl
@[simp] theorem is_ChoiceWait_22 (h : Hb) (vs : List PV) : isOne tab h (.ins 28 vs) (.cls 22) = some false := nr rfl
@[simp] theorem is_ChoiceWait_40 (h : Hb) (vs : List PV) : isOne tab h (.ins 28 vs) (.cls 40) = some false := nr rfl
@[simp] theorem it_ChoiceWait_bool (h : Hb) (vs : List PV) : isOne tab h (.ins 28 vs) (.ty "bool") = some false := nr rfl
@[simp] theorem it_ChoiceWait_int (h : Hb) (vs : List PV) : isOne tab h (.ins 28 vs) (.ty "int") = some false := nr rfl
@[simp] theorem it_ChoiceWait_str (h : Hb) (vs : List PV) : isOne tab h (.ins 28 vs) (.ty "str") = some false := nr rfl
@[simp] theorem it_ChoiceWait_tuple (h : Hb) (vs : List PV) : isOne tab h (.ins 28 vs) (.ty "tuple") = some false := nr rfl
@[simp] theorem fd_State_0 (h : Hb) (x0 x1 x2 : PV) : fldV tab h (.ins 29 [x0, x1, x2]) 19 = some x0 := nr rfl
@[simp] theorem fd_State_1 (h : Hb) (x0 x1 x2 : PV) : fldV tab h (.ins 29 [x0, x1, x2]) 14 = some x1 := nr rfl
@[simp] theorem fd_State_2 (h : Hb) (x0 x1 x2 : PV) : fldV tab h (.ins 29 [x0, x1, x2]) 20 = some x2 := nr rfl
@[simp] theorem is_State_14 (h : Hb) (vs : List PV) : isOne tab h (.ins 29 vs) (.cls 14) = some false := nr rfl
@[simp] theorem is_State_16 (h : Hb) (vs : List PV) : isOne tab h (.ins 29 vs) (.cls 16) = some false := nr rfl
@[simp] theorem is_State_17 (h : Hb) (vs : List PV) : isOne tab h (.ins 29 vs) (.cls 17) = some false := nr rfl
@[simp] theorem is_State_18 (h : Hb) (vs : List PV) : isOne tab h (.ins 29 vs) (.cls 18) = some false := nr rfl
@[simp] theorem is_State_19 (h : Hb) (vs : List PV) : isOne tab h (.ins 29 vs) (.cls 19) = some false := nr rfl
@[simp] theorem is_State_20 (h : Hb) (vs : List PV) : isOne tab h (.ins 29 vs) (.cls 20) = some false := nr rfl
@[simp] theorem is_State_21 (h : Hb) (vs : List PV) : isOne tab h (.ins 29 vs) (.cls 21) = some false := nr rfl
@[simp] theorem is_State_22 (h : Hb) (vs : List PV) : isOne tab h (.ins 29 vs) (.cls 22) = some false := nr rfl
@[simp] theorem is_State_40 (h : Hb) (vs : List PV) : isOne tab h (.ins 29 vs) (.cls 40) = some false := nr rfl
@[simp] theorem it_State_bool (h : Hb) (vs : List PV) : isOne tab h (.ins 29 vs) (.ty "bool") = some false := nr rfl
@[simp] theorem it_State_int (h : Hb) (vs : List PV) : isOne tab h (.ins 29 vs) (.ty "int") = some false := nr rfl
@[simp] theorem it_State_str (h : Hb) (vs : List PV) : isOne tab h (.ins 29 vs) (.ty "str") = some false := nr rfl
@[simp] theorem it_State_tuple (h : Hb) (vs : List PV) : isOne tab h (.ins 29 vs) (.ty "tuple") = some false := nr rfl
@[simp] theorem is_Bench_14 (h : Hb) (vs : List PV) : isOne tab h (.ins 40 vs) (.cls 14) = some false := nr rfl
@[simp] theorem is_Bench_16 (h : Hb) (vs : List PV) : isOne tab h (.ins 40 vs) (.cls 16) = some false := nr rfl
@[simp] theorem is_Bench_17 (h : Hb) (vs : List PV) : isOne tab h (.ins 40 vs) (.cls 17) = some false := nr rfl
@[simp] theorem is_Bench_18 (h : Hb) (vs : List PV) : isOne tab h (.ins 40 vs) (.cls 18) = some false := nr rfl
@[simp] theorem is_Bench_19 (h : Hb) (vs : List PV) : isOne tab h (.ins 40 vs) (.cls 19) = some false := nr rfl
@[simp] theorem is_Bench_20 (h : Hb) (vs : List PV) : isOne tab h (.ins 40 vs) (.cls 20) = some false := nr rfl
@[simp] theorem is_Bench_21 (h : Hb) (vs : List PV) : isOne tab h (.ins 40 vs) (.cls 21) = some false := nr rfl
@[simp] theorem is_Bench_22 (h : Hb) (vs : List PV) : isOne tab h (.ins 40 vs) (.cls 22) = some false := nr rfl
@[simp] theorem is_Bench_40 (h : Hb) (vs : List PV) : isOne tab h (.ins 40 vs) (.cls 40) = some true := nr rfl
@[simp] theorem it_Bench_bool (h : Hb) (vs : List PV) : isOne tab h (.ins 40 vs) (.ty "bool") = some false := nr rfl
@[simp] theorem it_Bench_int (h : Hb) (vs : List PV) : isOne tab h (.ins 40 vs) (.ty "int") = some false := nr rfl
@[simp] theorem it_Bench_str (h : Hb) (vs : List PV) : isOne tab h (.ins 40 vs) (.ty "str") = some false := nr rfl
@[simp] theorem it_Bench_tuple (h : Hb) (vs : List PV) : isOne tab h (.ins 40 vs) (.ty "tuple") = some false := nr rfl
@[simp] theorem is_non_14 (h : Hb) : isOne tab h .non (.cls 14) = some false := nr rfl
@[simp] theorem is_non_16 (h : Hb) : isOne tab h .non (.cls 16) = some false := nr rfl
@[simp] theorem is_non_17 (h : Hb) : isOne tab h .non (.cls 17) = some false := nr rfl
@[simp] theorem is_non_18 (h : Hb) : isOne tab h .non (.cls 18) = some false := nr rfl
@[simp] theorem is_non_19 (h : Hb) : isOne tab h .non (.cls 19) = some false := nr rfl
@[simp] theorem is_non_20 (h : Hb) : isOne tab h .non (.cls 20) = some false := nr rfl
@[simp] theorem is_non_21 (h : Hb) : isOne tab h .non (.cls 21) = some false := nr rfl
@[simp] theorem is_non_22 (h : Hb) : isOne tab h .non (.cls 22) = some false := nr rfl
@[simp] theorem is_non_40 (h : Hb) : isOne tab h .non (.cls 40) = some false := nr rfl
@[simp] theorem it_non_bool (h : Hb) : isOne tab h .non (.ty "bool") = some false := nr rfl
@[simp] theorem it_non_int (h : Hb) : isOne tab h .non (.ty "int") = some false := nr rfl
@[simp] theorem it_non_str (h : Hb) : isOne tab h .non (.ty "str") = some false := nr rfl
@[simp] theorem it_non_tuple (h : Hb) : isOne tab h .non (.ty "tuple") = some false := nr rfl
@[simp] theorem is_bl_14 (h : Hb) (b : Bool) : isOne tab h (.bl b) (.cls 14) = some false := nr rfl
@[simp] theorem is_bl_16 (h : Hb) (b : Bool) : isOne tab h (.bl b) (.cls 16) = some false := nr rfl
@[simp] theorem is_bl_17 (h : Hb) (b : Bool) : isOne tab h (.bl b) (.cls 17) = some false := nr rfl
@[simp] theorem is_bl_18 (h : Hb) (b : Bool) : isOne tab h (.bl b) (.cls 18) = some false := nr rfl
@[simp] theorem is_bl_19 (h : Hb) (b : Bool) : isOne tab h (.bl b) (.cls 19) = some false := nr rfl
@[simp] theorem is_bl_20 (h : Hb) (b : Bool) : isOne tab h (.bl b) (.cls 20) = some false := nr rfl
@[simp] theorem is_bl_21 (h : Hb) (b : Bool) : isOne tab h (.bl b) (.cls 21) = some false := nr rfl
@[simp] theorem is_bl_22 (h : Hb) (b : Bool) : isOne tab h (.bl b) (.cls 22) = some false := nr rfl
@[simp] theorem is_bl_40 (h : Hb) (b : Bool) : isOne tab h (.bl b) (.cls 40) = some false := nr rfl
@[simp] theorem it_bl_bool (h : Hb) (b : Bool) : isOne tab h (.bl b) (.ty "bool") = some true := nr rfl
@[simp] theorem it_bl_int (h : Hb) (b : Bool) : isOne tab h (.bl b) (.ty "int") = some true := nr rfl
@[simp] theorem it_bl_str (h : Hb) (b : Bool) : isOne tab h (.bl b) (.ty "str") = some false := nr rfl
@[simp] theorem it_bl_tuple (h : Hb) (b : Bool) : isOne tab h (.bl b) (.ty "tuple") = some false := nr rfl
@[simp] theorem is_int_14 (h : Hb) (b : Int) : isOne tab h (.int b) (.cls 14) = some false := nr rfl
@[simp] theorem is_int_16 (h : Hb) (b : Int) : isOne tab h (.int b) (.cls 16) = some false := nr rfl
@[simp] theorem is_int_17 (h : Hb) (b : Int) : isOne tab h (.int b) (.cls 17) = some false := nr rfl
@[simp] theorem is_int_18 (h : Hb) (b : Int) : isOne tab h (.int b) (.cls 18) = some false := nr rfl
@[simp] theorem is_int_19 (h : Hb) (b : Int) : isOne tab h (.int b) (.cls 19) = some false := nr rfl
@[simp] theorem is_int_20 (h : Hb) (b : Int) : isOne tab h (.int b) (.cls 20) = some false := nr rfl
@[simp] theorem is_int_21 (h : Hb) (b : Int) : isOne tab h (.int b) (.cls 21) = some false := nr rfl
@[simp] theorem is_int_22 (h : Hb) (b : Int) : isOne tab h (.int b) (.cls 22) = some false := nr rfl
@[simp] theorem is_int_40 (h : Hb) (b : Int) : isOne tab h (.int b) (.cls 40) = some false := nr rfl
@[simp] theorem it_int_bool (h : Hb) (b : Int) : isOne tab h (.int b) (.ty "bool") = some false := nr rfl
@[simp] theorem it_int_int (h : Hb) (b : Int) : isOne tab h (.int b) (.ty "int") = some true := nr rfl
@[simp] theorem it_int_str (h : Hb) (b : Int) : isOne tab h (.int b) (.ty "str") = some false := nr rfl
@[simp] theorem it_int_tuple (h : Hb) (b : Int) : isOne tab h (.int b) (.ty "tuple") = some false := nr rfl
@[simp] theorem is_str_14 (h : Hb) (b : Str) : isOne tab h (.str b) (.cls 14) = some false := nr rfl
@[simp] theorem is_str_16 (h : Hb) (b : Str) : isOne tab h (.str b) (.cls 16) = some false := nr rfl
@[simp] theorem is_str_17 (h : Hb) (b : Str) : isOne tab h (.str b) (.cls 17) = some false := nr rfl
@[simp] theorem is_str_18 (h : Hb) (b : Str) : isOne tab h (.str b) (.cls 18) = some false := nr rfl
@[simp] theorem is_str_19 (h : Hb) (b : Str) : isOne tab h (.str b) (.cls 19) = some false := nr rfl
@[simp] theorem is_str_20 (h : Hb) (b : Str) : isOne tab h (.str b) (.cls 20) = some false := nr rfl
@[simp] theorem is_str_21 (h : Hb) (b : Str) : isOne tab h (.str b) (.cls 21) = some false := nr rfl
@[simp] theorem is_str_22 (h : Hb) (b : Str) : isOne tab h (.str b) (.cls 22) = some false := nr rfl
@[simp] theorem is_str_40 (h : Hb) (b : Str) : isOne tab h (.str b) (.cls 40) = some false := nr rfl
@[simp] theorem it_str_bool (h : Hb) (b : Str) : isOne tab h (.str b) (.ty "bool") = some false := nr rfl
@[simp] theorem it_str_int (h : Hb) (b : Str) : isOne tab h (.str b) (.ty "int") = some false := nr rfl
@[simp] theorem it_str_str (h : Hb) (b : Str) : isOne tab h (.str b) (.ty "str") = some true := nr rfl
@[simp] theorem it_str_tuple (h : Hb) (b : Str) : isOne tab h (.str b) (.ty "tuple") = some false := nr rfl
@[simp] theorem is_tup_14 (h : Hb) (b : List PV) : isOne tab h (.tup b) (.cls 14) = some false := nr rfl
@[simp] theorem is_tup_16 (h : Hb) (b : List PV) : isOne tab h (.tup b) (.cls 16) = some false := nr rfl
@[simp] theorem is_tup_17 (h : Hb) (b : List PV) : isOne tab h (.tup b) (.cls 17) = some false := nr rfl
@[simp] theorem is_tup_18 (h : Hb) (b : List PV) : isOne tab h (.tup b) (.cls 18) = some false := nr rfl
@[simp] theorem is_tup_19 (h : Hb) (b : List PV) : isOne tab h (.tup b) (.cls 19) = some false := nr rfl
@[simp] theorem is_tup_20 (h : Hb) (b : List PV) : isOne tab h (.tup b) (.cls 20) = some false := nr rfl
@[simp] theorem is_tup_21 (h : Hb) (b : List PV) : isOne tab h (.tup b) (.cls 21) = some false := nr rfl
@[simp] theorem is_tup_22 (h : Hb) (b : List PV) : isOne tab h (.tup b) (.cls 22) = some false := nr rfl
@[simp] theorem is_tup_40 (h : Hb) (b : List PV) : isOne tab h (.tup b) (.cls 40) = some false := nr rfl
@[simp] theorem it_tup_bool (h : Hb) (b : List PV) : isOne tab h (.tup b) (.ty "bool") = some false := nr rfl
@[simp] theorem it_tup_int (h : Hb) (b : List PV) : isOne tab h (.tup b) (.ty "int") = some false := nr rfl
@[simp] theorem it_tup_str (h : Hb) (b : List PV) : isOne tab h (.tup b) (.ty "str") = some false := nr rfl
@[simp] theorem it_tup_tuple (h : Hb) (b : List PV) : isOne tab h (.tup b) (.ty "tuple") = some true := nr rfl
@[simp] theorem is_lst_14 (h : Hb) (b : List PV) : isOne tab h (.lst b) (.cls 14) = some false := nr rfl
@[simp] theorem is_lst_16 (h : Hb) (b : List PV) : isOne tab h (.lst b) (.cls 16) = some false := nr rfl
@[simp] theorem is_lst_17 (h : Hb) (b : List PV) : isOne tab h (.lst b) (.cls 17) = some false := nr rfl
@[simp] theorem is_lst_18 (h : Hb) (b : List PV) : isOne tab h (.lst b) (.cls 18) = some false := nr rfl
@[simp] theorem is_lst_19 (h : Hb) (b : List PV) : isOne tab h (.lst b) (.cls 19) = some false := nr rfl
@[simp] theorem is_lst_20 (h : Hb) (b : List PV) : isOne tab h (.lst b) (.cls 20) = some false := nr rfl
@[simp] theorem is_lst_21 (h : Hb) (b : List PV) : isOne tab h (.lst b) (.cls 21) = some false := nr rfl
@[simp] theorem is_lst_22 (h : Hb) (b : List PV) : isOne tab h (.lst b) (.cls 22) = some false := nr rfl
@[simp] theorem is_lst_40 (h : Hb) (b : List PV) : isOne tab h (.lst b) (.cls 40) = some false := nr rfl
@[simp] theorem it_lst_bool (h : Hb) (b : List PV) : isOne tab h (.lst b) (.ty "bool") = some false := nr rfl
@[simp] theorem it_lst_int (h : Hb) (b : List PV) : isOne tab h (.lst b) (.ty "int") = some false := nr rfl
@[simp] theorem it_lst_str (h : Hb) (b : List PV) : isOne tab h (.lst b) (.ty "str") = some false := nr rfl
@[simp] theorem it_lst_tuple (h : Hb) (b : List PV) : isOne tab h (.lst b) (.ty "tuple") = some false := nr rfl
@[simp] theorem is_dic_14 (h : Hb) (b : List Key) (c : List PV) : isOne tab h (.dic b c) (.cls 14) = some false := nr rfl
@[simp] theorem is_dic_16 (h : Hb) (b : List Key) (c : List PV) : isOne tab h (.dic b c) (.cls 16) = some false := nr rfl
@[simp] theorem is_dic_17 (h : Hb) (b : List Key) (c : List PV) : isOne tab h (.dic b c) (.cls 17) = some false := nr rfl
@[simp] theorem is_dic_18 (h : Hb) (b : List Key) (c : List PV) : isOne tab h (.dic b c) (.cls 18) = some false := nr rfl
@[simp] theorem is_dic_19 (h : Hb) (b : List Key) (c : List PV) : isOne tab h (.dic b c) (.cls 19) = some false := nr rfl
@[simp] theorem is_dic_20 (h : Hb) (b : List Key) (c : List PV) : isOne tab h (.dic b c) (.cls 20) = some false := nr rfl
@[simp] theorem is_dic_21 (h : Hb) (b : List Key) (c : List PV) : isOne tab h (.dic b c) (.cls 21) = some false := nr rfl
@[simp] theorem is_dic_22 (h : Hb) (b : List Key) (c : List PV) : isOne tab h (.dic b c) (.cls 22) = some false := nr rfl
@[simp] theorem is_dic_40 (h : Hb) (b : List Key) (c : List PV) : isOne tab h (.dic b c) (.cls 40) = some false := nr rfl
@[simp] theorem it_dic_bool (h : Hb) (b : List Key) (c : List PV) : isOne tab h (.dic b c) (.ty "bool") = some false := nr rfl
@[simp] theorem it_dic_int (h : Hb) (b : List Key) (c : List PV) : isOne tab h (.dic b c) (.ty "int") = some false := nr rfl
@[simp] theorem it_dic_str (h : Hb) (b : List Key) (c : List PV) : isOne tab h (.dic b c) (.ty "str") = some false := nr rfl
@[simp] theorem it_dic_tuple (h : Hb) (b : List Key) (c : List PV) : isOne tab h (.dic b c) (.ty "tuple") = some false := nr rfl
end U
set_option maxHeartbeats 1000000
namespace U
open PySem L2
inductive Tm where
  | opn | name (x : Str) | num (i : Int) | mk (x : Str) (b : Tm) | give (m g : Tm) | sum (s : Str) (a b : Tm) | cho (a b c : Tm) | again (x : Str) (b : Tm)
/-- the term as a value -/
def Tm.v : Tm → PV
  | .opn => .ins 15 []
  | .name x => .ins 16 [.str x]
  | .num i => .ins 17 [.int i]
  | .mk x b => .ins 18 [.str x, b.v]
  | .give m g => .ins 19 [m.v, g.v]
  | .sum s a b => .ins 20 [.str s, a.v, b.v]
  | .cho a b c => .ins 21 [a.v, b.v, c.v]
  | .again x b => .ins 22 [.str x, b.v]
def Tm.told : Tm → PV
  | .opn => .tup [.str "open"]
  | .name x => .tup [.str "name", .str x]
  | .num i => .tup [.str "number", .int i]
  | .mk x b => .tup [.str "maker", .str x, b.told]
  | .give m g => .tup [.str "give", m.told, g.told]
  | .sum s a b => .tup [.str "sum", .str s, a.told, b.told]
  | .cho a b c => .tup [.str "choice", a.told, b.told, c.told]
  | .again x b => .tup [.str "again", .str x, b.told]
def Tm.depth : Tm → Nat
  | .opn => 1
  | .name _ => 1
  | .num _ => 1
  | .mk _ b => b.depth + 1
  | .give m g => max m.depth g.depth + 1
  | .sum _ a b => max a.depth b.depth + 1
  | .cho a b c => max (max a.depth b.depth) c.depth + 1
  | .again _ b => b.depth + 1
def Tm.parts : Tm → List Tm
  | .mk _ b => [b]
  | .give m g => [m, g]
  | .sum _ a b => [a, b]
  | .cho a b c => [a, b, c]
  | .again _ b => [b]
  | _ => []
def Tm.binds : Tm → Option Str
  | .mk x _ => some x
  | .again x _ => some x
  | _ => none
def bv : Option Str → PV
  | some x => .str x
  | none => .non
/-- names, signs that may stand -/
def letters : Str := "abcdefghijklmnopqrstuvwxyz"
structure OkN (x : Str) : Prop where
  lo : 1 ≤ x.length
  hi : x.length ≤ 8
  ab : ∀ c ∈ x.cps.toList, c ∈ letters.cps.toList
def OkS (s : Str) : Prop := s = "+" ∨ s = "-" ∨ s = "<"
def Tm.Ok : Tm → Prop
  | .opn => True
  | .name x => OkN x
  | .num _ => True
  | .mk x b => OkN x ∧ b.Ok
  | .give m g => m.Ok ∧ g.Ok
  | .sum s a b => OkS s ∧ a.Ok ∧ b.Ok
  | .cho a b c => a.Ok ∧ b.Ok ∧ c.Ok
  | .again x b => OkN x ∧ b.Ok
theorem OkN.strOk {x : Str} (h : OkN x) : PyData.strOk x = true := by
  unfold PyData.strOk
  rw [← Array.all_toList, List.all_eq_true]
  intro c hc
  have q : ∀ c ∈ letters.cps.toList, c < 0x110000 := by decide
  exact decide_eq_true (q c (h.ab c hc))
theorem OkS.strOk {x : Str} (h : OkS x) : PyData.strOk x = true := by
  rcases h with h | h | h <;> (subst h; exact strOk_lit _)
theorem cmpN_map {α : Type} {turn : PV → FS → R FS (Option PV)} {g f : α → PV} {sl : List Sl} {hp : Hb} : ∀ {as : List α} {acc : List PV}, (∀ a ∈ as, ∃ sl', turn (g a) ⟨sl, hp⟩ = .ok (some (f a)) ⟨sl', hp⟩) → acc.length + as.length ≤ sizeLine → cmpN turn (as.map g) hp sl acc = .ok (acc ++ as.map f) hp
  | [], acc, _, _ => by
    rw [List.map_nil, cmpN, List.map_nil, List.append_nil]
  | x :: r, acc, h, l => by
    obtain ⟨sl', e⟩ := h x List.mem_cons_self
    rw [List.length_cons] at l
    rw [List.map_cons, cmpN, e]
    dsimp only
    rw [if_pos (by omega), cmpN_map (fun y hy => h y (List.mem_cons_of_mem _ hy)) (by rw [List.length_append]; simp only [List.length_cons, List.length_nil]; omega), List.append_assoc]
    rfl
theorem allB_map {α : Type} (p : α → Bool) : ∀ xs : List α, allB (xs.map fun x => .bl (p x)) = some (xs.all p)
  | [] => rfl
  | x :: r => by
    show (allB (r.map fun x => .bl (p x))).map (p x && ·) = _
    rw [allB_map p r]
    rfl
theorem chars_map : ∀ cs : List Nat, chars cs = cs.map fun c => .str ⟨#[c]⟩
  | [] => rfl
  | c :: r => by rw [chars, chars_map r]; rfl
variable {D : Nat} {h : Hb}
theorem suc {D n : Nat} (hD : n + 1 ≤ D) : ∃ k, D = k + 1 ∧ n ≤ k := ⟨D - 1, by omega, by omega⟩
def isL (c : Nat) : Bool := decide (c ∈ letters.cps.toList)
/-- is_name -/
theorem r_is_name {x : Str} (hD : 1 ≤ D) (hx : OkN x) : RUN D 4 [.str x] h = .ok (.bl true) h := by
  obtain ⟨D, rfl, h1⟩ := suc hD
  rw [R_is_name]
  have hl : evBF .len h [.str x] = some (.int x.length) := len_str (le_sz (by have := hx.hi; omega))
  have e1 : (1 : Int) ≤ (x.length : Int) := by have := hx.lo; omega
  have e2 : (x.length : Int) ≤ 8 := by have := hx.hi; omega
  have hc : cmpN (turnR (EV D) (E.cmp CO.in_ (E.var 1) (E.gc 0)) (Tg.n 1) Ts.nil) (chars x.cps.toList) h (blk { sl := [Sl.val (PV.str x), Sl.un], hp := h } [1]).sl [] = .ok (x.cps.toList.map fun c => .bl (isL c)) h := by
    rw [chars_map]
    refine (cmpN_map (f := fun c => .bl (isL c)) (fun c hc => ?_) ?_).trans (by rw [List.nil_append])
    · rw [turnR_eq]
      have : evIn h (.str ⟨#[c]⟩) (.str letters) = some (isL c) := rfl
      simp [asg_n, blk, wip, blind, g_0, show (Str.ofString "abcdefghijklmnopqrstuvwxyz") = letters from rfl, this]
    · have : x.cps.toList.length = x.length := rfl
      rw [List.length_nil, this]
      exact le_sz (by have := hx.hi; omega)
  have ha : allB (x.cps.toList.map fun c => .bl (isL c)) = some true := by
    have : x.cps.toList.all isL = true := List.all_eq_true.mpr fun c hc => decide_eq_true (hx.ab c hc)
    rw [allB_map, this]
  simp [b_is_name, hl, isAny_cons, g_1, e1, e2, hc, ha]
theorem r_need_name {x : Str} (hD : 2 ≤ D) (hx : OkN x) : RUN D 6 [.str x] h = .ok .non h := by
  obtain ⟨D, rfl, h1⟩ := suc hD
  simp [R_need_name, b_need_name, r_is_name h1 hx]
theorem r_is_whole {i : Int} (hD : 1 ≤ D) : RUN D 5 [.int i] h = .ok (.bl true) h := by
  obtain ⟨D, rfl, h1⟩ := suc hD
  simp [R_is_whole, b_is_whole, isAny_cons]
theorem isO_tm (t : Tm) : isOne tab h t.v (.cls 14) = some true := by
  cases t <;> simp [Tm.v]
/-- which def a term's method is -/
theorem r_parts (t : Tm) (hD : 1 ≤ D) : ∃ f, mfind tab h t.v 0 = some f ∧ (∀ fs, fcall (EV D) f [t.v] fs = R.up fs (.ok (.lst (t.parts.map Tm.v)) fs.hp)) := by
  obtain ⟨D, rfl, h1⟩ := suc hD
  cases t <;> (refine ⟨_, rfl, fun fs => ?_⟩) <;> simp [Tm.v, Tm.parts, R_Term_parts, b_Term_parts, R_Maker_parts, b_Maker_parts, R_Give_parts, b_Give_parts, R_Sum_parts, b_Sum_parts, R_Choice_parts, b_Choice_parts, R_Again_parts, b_Again_parts]
theorem r_binds (t : Tm) (hD : 1 ≤ D) : ∃ f, mfind tab h t.v 2 = some f ∧ (∀ fs, pcall (EV D) f [t.v] fs = R.up fs (.ok (bv t.binds) fs.hp)) := by
  obtain ⟨D, rfl, h1⟩ := suc hD
  cases t <;> (refine ⟨_, rfl, fun fs => ?_⟩) <;> simp [Tm.v, Tm.binds, bv, R_Term_binds, b_Term_binds, R_Maker_binds, b_Maker_binds, R_Again_binds, b_Again_binds]
theorem r_told (t : Tm) : ∀ {D : Nat} {h : Hb}, t.depth ≤ D → ∃ f, mfind tab h t.v 3 = some f ∧ (∀ fs, pcall (EV D) f [t.v] fs = R.up fs (.ok t.told fs.hp)) := by
  induction t with
  | opn => intro D h hD; obtain ⟨D, rfl, h1⟩ := suc hD; exact ⟨_, rfl, fun fs => by simp [Tm.v, Tm.told, R_Term_told, b_Term_told]⟩
  | name x => intro D h hD; obtain ⟨D, rfl, h1⟩ := suc hD; exact ⟨_, rfl, fun fs => by simp [Tm.v, Tm.told, R_Name_told, b_Name_told]⟩
  | num x => intro D h hD; obtain ⟨D, rfl, h1⟩ := suc hD; exact ⟨_, rfl, fun fs => by simp [Tm.v, Tm.told, R_Number_told, b_Number_told]⟩
  | mk x b ih =>
    intro D h hD
    obtain ⟨D, rfl, h1⟩ := suc hD
    refine ⟨_, rfl, fun fs => ?_⟩
    obtain ⟨f, e1, e2⟩ := ih (h := fs.hp) h1
    simp [Tm.v, Tm.told, R_Maker_told, b_Maker_told, e1, e2]
  | again x b ih =>
    intro D h hD
    obtain ⟨D, rfl, h1⟩ := suc hD
    refine ⟨_, rfl, fun fs => ?_⟩
    obtain ⟨f, e1, e2⟩ := ih (h := fs.hp) h1
    simp [Tm.v, Tm.told, R_Again_told, b_Again_told, e1, e2]
  | give a b ia ib =>
    intro D h hD
    obtain ⟨D, rfl, h1⟩ := suc hD
    refine ⟨_, rfl, fun fs => ?_⟩
    obtain ⟨f, e1, e2⟩ := ia (h := fs.hp) (D := D) (by simp only [Tm.depth] at hD; omega)
    obtain ⟨g, e3, e4⟩ := ib (h := fs.hp) (D := D) (by simp only [Tm.depth] at hD; omega)
    simp [Tm.v, Tm.told, R_Give_told, b_Give_told, e1, e2, e3, e4]
  | sum s a b ia ib =>
    intro D h hD
    obtain ⟨D, rfl, h1⟩ := suc hD
    refine ⟨_, rfl, fun fs => ?_⟩
    obtain ⟨f, e1, e2⟩ := ia (h := fs.hp) (D := D) (by simp only [Tm.depth] at hD; omega)
    obtain ⟨g, e3, e4⟩ := ib (h := fs.hp) (D := D) (by simp only [Tm.depth] at hD; omega)
    simp [Tm.v, Tm.told, R_Sum_told, b_Sum_told, e1, e2, e3, e4]
  | cho a b c ia ib ic =>
    intro D h hD
    obtain ⟨D, rfl, h1⟩ := suc hD
    refine ⟨_, rfl, fun fs => ?_⟩
    obtain ⟨f, e1, e2⟩ := ia (h := fs.hp) (D := D) (by simp only [Tm.depth] at hD; omega)
    obtain ⟨g, e3, e4⟩ := ib (h := fs.hp) (D := D) (by simp only [Tm.depth] at hD; omega)
    obtain ⟨k, e5, e6⟩ := ic (h := fs.hp) (D := D) (by simp only [Tm.depth] at hD; omega)
    simp [Tm.v, Tm.told, R_Choice_told, b_Choice_told, e1, e2, e3, e4, e5, e6]
theorem r_need_terms {ts : List Tm} (hD : 1 ≤ D) : RUN D 19 [.lst (ts.map Tm.v)] h = .ok .non h := by
  obtain ⟨D, rfl, h1⟩ := suc hD
  have key : ∀ (ts : List Tm) (s : Sl), ∃ s', forN (forB (EV D) (Tg.n 1) (.cons (.ite (.not_ (.v (.isi (.var 1) [.cls 14]))) (.cons (.rse 1 (.cons (.str "a part is a term") .nil)) .nil) .nil) .nil)) (ts.map Tm.v) ⟨[.val (.lst (ts.map Tm.v)), s], h⟩ = .ok .nx ⟨[.val (.lst (ts.map Tm.v)), s'], h⟩ := by
    intro ts
    generalize hv : (PV.lst (ts.map Tm.v)) = v0
    clear hv
    induction ts with
    | nil => intro s; exact ⟨s, rfl⟩
    | cons t r ih =>
      intro s
      obtain ⟨s', e⟩ := ih (.val t.v)
      refine ⟨s', ?_⟩
      rw [List.map_cons, forN, forB_eq]
      simp [asg_n, isAny_cons, isO_tm, e]
  obtain ⟨s', e⟩ := key ts .un
  simp [R_need_terms, b_need_terms, e]
@[simp] theorem endI_eq (D c : Nat) (fl : List (Nat × PV)) (r : List Sl) (hp : Hb) : endI (EV D) c (.ok .nx ⟨.own c fl :: r, hp⟩) = oI (t_cls c) (k := ⟨fun cl => pif (fl.map (fun q : Nat × PV => q.1) = cl.flds) (x := ⟨fun _ => .ok (.ins c (fl.map (fun q : Nat × PV => q.2))) hp⟩) (y := ⟨fun _ => .no⟩)⟩) (n := ⟨fun _ => .no⟩) := by
  unfold endI
  show (match some (Sl.own c fl), t_cls c with
        | some (Sl.own d fl), some cl => if d = c ∧ fl.map (fun q : Nat × PV => q.1) = cl.flds then R.ok (PV.ins c (fl.map (fun q : Nat × PV => q.2))) hp else .no
        | _, _ => .no) = _
  cases t_cls c with
  | none => rfl
  | some cl =>
    show (if c = c ∧ fl.map (fun q : Nat × PV => q.1) = cl.flds then R.ok (PV.ins c (fl.map (fun q : Nat × PV => q.2))) hp else .no) = (if fl.map (fun q : Nat × PV => q.1) = cl.flds then _ else _)
    by_cases q : fl.map (fun q : Nat × PV => q.1) = cl.flds
    · rw [if_pos ⟨rfl, q⟩, if_pos q]
      rfl
    · rw [if_neg (fun z => q z.2), if_neg q]
      rfl
@[simp] theorem putR_own (k c : Nat) (y : PV) (fl : List (Nat × PV)) (r : List Sl) (hp : Hb) : putR tab k y ⟨.own c fl :: r, hp⟩ = oI (t_cls c) (k := ⟨fun cl => pif (cl.exc = false ∧ fl.length < 900 ∧ k ∈ cl.flds) (x := ⟨fun _ => .ok .nx ⟨.own c (fPut fl k y) :: r, hp⟩⟩) (y := ⟨fun _ => .no⟩)⟩) (n := ⟨fun _ => .no⟩) := by
  unfold putR
  show (match t_cls c with
    | some cl => if cl.exc = false ∧ fl.length < 900 ∧ k ∈ cl.flds then R.ok Fl.nx (putS ⟨.own c fl :: r, hp⟩ 0 (.own c (fPut fl k y))) else .no
    | none => .no) = _
  cases t_cls c <;> rfl
theorem m_opn (fs : FS) : mkF (EV D) 15 [] fs = .ok Tm.opn.v fs := rfl
theorem m_num {i : Int} (hD : 3 ≤ D) (fs : FS) : mkF (EV D) 17 [.int i] fs = .ok (Tm.num i).v fs := by
  obtain ⟨D, rfl, h1⟩ := suc hD
  obtain ⟨D, rfl, h2⟩ := suc h1
  simp [R_Number_init, b_Number_init, r_is_whole (i := i) (D := D) (by omega), c_Number, fPut, Tm.v]
theorem m_name {x : Str} (hD : 4 ≤ D) (hx : OkN x) (fs : FS) : mkF (EV D) 16 [.str x] fs = .ok (Tm.name x).v fs := by
  obtain ⟨D, rfl, h1⟩ := suc hD
  obtain ⟨D, rfl, h2⟩ := suc h1
  simp [R_Name_init, b_Name_init, r_need_name h2 hx, c_Name, fPut, Tm.v]
theorem m_mk {x : Str} {b : Tm} (hD : 4 ≤ D) (hx : OkN x) (fs : FS) : mkF (EV D) 18 [.str x, b.v] fs = .ok (Tm.mk x b).v fs := by
  obtain ⟨D, rfl, h1⟩ := suc hD
  obtain ⟨D, rfl, h2⟩ := suc h1
  have e := r_need_terms (ts := [b]) (D := D) (h := fs.hp) (by omega)
  simp only [List.map_cons, List.map_nil] at e
  simp [R_Maker_init, b_Maker_init, r_need_name h2 hx, e, c_Maker, fPut, Tm.v]
theorem m_again {x : Str} {b : Tm} (hD : 4 ≤ D) (hx : OkN x) (fs : FS) : mkF (EV D) 22 [.str x, b.v] fs = .ok (Tm.again x b).v fs := by
  obtain ⟨D, rfl, h1⟩ := suc hD
  obtain ⟨D, rfl, h2⟩ := suc h1
  have e := r_need_terms (ts := [b]) (D := D) (h := fs.hp) (by omega)
  simp only [List.map_cons, List.map_nil] at e
  simp [R_Again_init, b_Again_init, r_need_name h2 hx, e, c_Again, fPut, Tm.v]
theorem m_give {a b : Tm} (hD : 4 ≤ D) (fs : FS) : mkF (EV D) 19 [a.v, b.v] fs = .ok (Tm.give a b).v fs := by
  obtain ⟨D, rfl, h1⟩ := suc hD
  obtain ⟨D, rfl, h2⟩ := suc h1
  have e := r_need_terms (ts := [a, b]) (D := D) (h := fs.hp) (by omega)
  simp only [List.map_cons, List.map_nil] at e
  simp [R_Give_init, b_Give_init, e, c_Give, fPut, Tm.v]
theorem m_sum {s : Str} {a b : Tm} (hD : 4 ≤ D) (hs : OkS s) (fs : FS) : mkF (EV D) 20 [.str s, a.v, b.v] fs = .ok (Tm.sum s a b).v fs := by
  obtain ⟨D, rfl, h1⟩ := suc hD
  obtain ⟨D, rfl, h2⟩ := suc h1
  have e := r_need_terms (ts := [a, b]) (D := D) (h := fs.hp) (by omega)
  simp only [List.map_cons, List.map_nil] at e
  have q : evIn fs.hp (.str s) g_2 = some true := by
    unfold g_2
    rw [in_tup rfl (by rfl)]
    rcases hs with h | h | h <;> (subst h; simp [inL])
  simp [R_Sum_init, b_Sum_init, e, c_Sum, fPut, Tm.v, isAny_cons, q]
theorem m_cho {a b c : Tm} (hD : 4 ≤ D) (fs : FS) : mkF (EV D) 21 [a.v, b.v, c.v] fs = .ok (Tm.cho a b c).v fs := by
  obtain ⟨D, rfl, h1⟩ := suc hD
  obtain ⟨D, rfl, h2⟩ := suc h1
  have e := r_need_terms (ts := [a, b, c]) (D := D) (h := fs.hp) (by omega)
  simp only [List.map_cons, List.map_nil] at e
  simp [R_Choice_init, b_Choice_init, e, c_Choice, fPut, Tm.v]
theorem r_term_of (t : Tm) : ∀ {D : Nat} {h : Hb}, t.depth + 4 ≤ D → t.Ok → RUN D 61 [t.told] h = .ok t.v h := by
  induction t with
  | opn =>
    intro D h hD ok
    obtain ⟨D, rfl, h1⟩ := suc hD
    simp [R_term_of, Tm.told, b_term_of, g_100, zipD, dGet, Tm.v]
  | name x =>
    intro D h hD ok
    obtain ⟨D, rfl, h1⟩ := suc hD
    have e := fun fs => m_name (D := D) (x := x) (by simp only [Tm.depth] at hD; omega) ok fs
    simp only [Tm.v] at e
    simp [R_term_of, Tm.told, b_term_of, g_100, zipD, dGet, Tm.v, e]
  | num x =>
    intro D h hD ok
    obtain ⟨D, rfl, h1⟩ := suc hD
    have e := fun fs => m_num (D := D) (i := x) (by simp only [Tm.depth] at hD; omega) fs
    simp only [Tm.v] at e
    simp [R_term_of, Tm.told, b_term_of, g_100, zipD, dGet, Tm.v, e]
  | mk x b ih =>
    intro D h hD ok
    obtain ⟨D, rfl, h1⟩ := suc hD
    simp only [Tm.depth] at hD
    have e := fun fs => m_mk (D := D) (x := x) (b := b) (by omega) ok.1 fs
    simp only [Tm.v] at e
    have i1 := fun h => ih (D := D) (h := h) (by omega) ok.2
    simp [R_term_of, Tm.told, b_term_of, g_100, zipD, dGet, Tm.v, e, i1]
  | again x b ih =>
    intro D h hD ok
    obtain ⟨D, rfl, h1⟩ := suc hD
    simp only [Tm.depth] at hD
    have e := fun fs => m_again (D := D) (x := x) (b := b) (by omega) ok.1 fs
    simp only [Tm.v] at e
    have i1 := fun h => ih (D := D) (h := h) (by omega) ok.2
    simp [R_term_of, Tm.told, b_term_of, g_100, zipD, dGet, Tm.v, e, i1]
  | give a b ia ib =>
    intro D h hD ok
    obtain ⟨D, rfl, h1⟩ := suc hD
    simp only [Tm.depth] at hD
    have e := fun fs => m_give (D := D) (a := a) (b := b) (by omega) fs
    simp only [Tm.v] at e
    have i1 := fun h => ia (D := D) (h := h) (by omega) ok.1
    have i2 := fun h => ib (D := D) (h := h) (by omega) ok.2
    simp [R_term_of, Tm.told, b_term_of, g_100, zipD, dGet, Tm.v, e, i1, i2]
  | sum s a b ia ib =>
    intro D h hD ok
    obtain ⟨D, rfl, h1⟩ := suc hD
    simp only [Tm.depth] at hD
    have e := fun fs => m_sum (D := D) (s := s) (a := a) (b := b) (by omega) ok.1 fs
    simp only [Tm.v] at e
    have i1 := fun h => ia (D := D) (h := h) (by omega) ok.2.1
    have i2 := fun h => ib (D := D) (h := h) (by omega) ok.2.2
    simp [R_term_of, Tm.told, b_term_of, g_100, zipD, dGet, Tm.v, e, i1, i2]
  | cho a b c ia ib ic =>
    intro D h hD ok
    obtain ⟨D, rfl, h1⟩ := suc hD
    simp only [Tm.depth] at hD
    have e := fun fs => m_cho (D := D) (a := a) (b := b) (c := c) (by omega) fs
    simp only [Tm.v] at e
    have i1 := fun h => ia (D := D) (h := h) (by omega) ok.1
    have i2 := fun h => ib (D := D) (h := h) (by omega) ok.2.1
    have i3 := fun h => ic (D := D) (h := h) (by omega) ok.2.2
    simp [R_term_of, Tm.told, b_term_of, g_100, zipD, dGet, Tm.v, e, i1, i2, i3]
def Tm.In : List Str → Tm → Prop
  | _, .opn => True
  | xs, .name x => x ∈ xs
  | _, .num _ => True
  | xs, .mk x b => b.In (x :: xs)
  | xs, .give m g => m.In xs ∧ g.In xs
  | xs, .sum _ a b => a.In xs ∧ b.In xs
  | xs, .cho a b c => a.In xs ∧ b.In xs ∧ c.In xs
  | xs, .again x b => b.In (x :: xs)
def Tm.freeL : Tm → List Str
  | .opn => sortT (dedupT [])
  | .name x => [x]
  | .num _ => sortT (dedupT [])
  | .mk x b => sortT (dedupT (b.freeL.filter fun n => !decide (n = x)))
  | .give m g => sortT (dedupT (m.freeL ++ g.freeL))
  | .sum _ a b => sortT (dedupT (a.freeL ++ b.freeL))
  | .cho a b c => sortT (dedupT (a.freeL ++ (b.freeL ++ c.freeL)))
  | .again x b => sortT (dedupT (b.freeL.filter fun n => !decide (n = x)))
theorem insT_mem {x y : Str} : ∀ {l : List Str}, y ∈ insT x l ↔ y = x ∨ y ∈ l
  | [] => by simp [insT]
  | z :: r => by
    rw [insT]
    split
    · simp
    · rw [List.mem_cons, insT_mem, List.mem_cons]
      constructor
      · rintro (h | h | h) <;> simp [h]
      · rintro (h | h | h) <;> simp [h]
theorem insT_len {x : Str} : ∀ {l : List Str}, (insT x l).length = l.length + 1
  | [] => rfl
  | z :: r => by
    rw [insT]
    split
    · rfl
    · rw [List.length_cons, insT_len]; rfl
theorem sortT_mem {y : Str} : ∀ {l : List Str}, y ∈ sortT l ↔ y ∈ l
  | [] => Iff.rfl
  | x :: r => by rw [sortT, insT_mem, sortT_mem, List.mem_cons]
theorem sortT_len : ∀ {l : List Str}, (sortT l).length = l.length
  | [] => rfl
  | x :: r => by rw [sortT, insT_len, sortT_len]; rfl
theorem dedupT_mem {y : Str} : ∀ {l : List Str}, y ∈ dedupT l ↔ y ∈ l
  | [] => Iff.rfl
  | x :: r => by
    rw [dedupT]
    split
    · rename_i h
      rw [dedupT_mem, List.mem_cons]
      constructor
      · exact .inr
      · rintro (e | e)
        · rw [e]; exact h
        · exact e
    · rw [List.mem_cons, List.mem_cons, dedupT_mem]
theorem dedupT_nodup : ∀ {l : List Str}, (dedupT l).Nodup
  | [] => List.nodup_nil
  | x :: r => by
    rw [dedupT]
    split
    · exact dedupT_nodup
    · rename_i h
      exact List.nodup_cons.mpr ⟨fun q => h (dedupT_mem.mp q), dedupT_nodup⟩
theorem nodup_le {α : Type} [DecidableEq α] : ∀ {l xs : List α}, l.Nodup → (∀ x ∈ l, x ∈ xs) → l.length ≤ xs.length
  | [], _, _, _ => Nat.zero_le _
  | a :: r, xs, n, h => by
    obtain ⟨n1, n2⟩ := List.nodup_cons.mp n
    have ha := h a List.mem_cons_self
    have := nodup_le (xs := xs.erase a) n2 fun x hx => (List.mem_erase_of_ne (by rintro rfl; exact n1 hx)).mpr (h x (List.mem_cons_of_mem _ hx))
    rw [List.length_erase_of_mem ha] at this
    have : 0 < xs.length := List.length_pos_of_mem ha
    rw [List.length_cons]
    omega
theorem free_sub (t : Tm) : ∀ {xs : List Str}, t.In xs → ∀ y ∈ t.freeL, y ∈ xs := by
  induction t with
  | opn => intro xs _ y hy; simp [Tm.freeL, dedupT, sortT] at hy
  | num x => intro xs _ y hy; simp [Tm.freeL, dedupT, sortT] at hy
  | name x => intro xs h y hy; simp only [Tm.freeL, List.mem_singleton] at hy; rw [hy]; exact h
  | mk x b ih =>
    intro xs h y hy
    simp only [Tm.freeL, sortT_mem, dedupT_mem, List.mem_filter] at hy
    rcases List.mem_cons.mp (ih h y hy.1) with e | e
    · simp [e] at hy
    · exact e
  | again x b ih =>
    intro xs h y hy
    simp only [Tm.freeL, sortT_mem, dedupT_mem, List.mem_filter] at hy
    rcases List.mem_cons.mp (ih h y hy.1) with e | e
    · simp [e] at hy
    · exact e
  | give a b ia ib =>
    intro xs h y hy
    simp only [Tm.freeL, sortT_mem, dedupT_mem, List.mem_append] at hy
    rcases hy with e | e
    · exact ia h.1 y e
    · exact ib h.2 y e
  | sum s a b ia ib =>
    intro xs h y hy
    simp only [Tm.freeL, sortT_mem, dedupT_mem, List.mem_append] at hy
    rcases hy with e | e
    · exact ia h.1 y e
    · exact ib h.2 y e
  | cho a b c ia ib ic =>
    intro xs h y hy
    simp only [Tm.freeL, sortT_mem, dedupT_mem, List.mem_append] at hy
    rcases hy with e | e | e
    · exact ia h.1 y e
    · exact ib h.2.1 y e
    · exact ic h.2.2 y e
theorem free_len {t : Tm} {xs : List Str} (h : t.In xs) : t.freeL.length ≤ xs.length := by
  have key : ∀ l : List Str, (∀ y ∈ sortT (dedupT l), y ∈ xs) → (sortT (dedupT l)).length ≤ xs.length := fun l hl => by
    rw [sortT_len]
    exact nodup_le dedupT_nodup fun x hx => hl x (sortT_mem.mpr hx)
  cases t with
  | name x => exact List.length_pos_of_mem (show x ∈ xs from h)
  | _ => exact key _ (free_sub _ h)
theorem In.closed {t : Tm} (h : t.In []) : t.freeL = [] := List.length_eq_zero_iff.mp (Nat.le_zero.mp (free_len h))
theorem cmpN_filt {α : Type} {turn : PV → FS → R FS (Option PV)} {g f : α → PV} {p : α → Bool} {sl : List Sl} {hp : Hb} : ∀ {as : List α} {acc : List PV}, (∀ a ∈ as, ∃ sl', turn (g a) ⟨sl, hp⟩ = .ok (if p a = true then some (f a) else none) ⟨sl', hp⟩) → acc.length + as.length ≤ sizeLine → cmpN turn (as.map g) hp sl acc = .ok (acc ++ (as.filter p).map f) hp
  | [], acc, _, _ => by
    rw [List.map_nil, cmpN, List.filter_nil, List.map_nil, List.append_nil]
  | x :: r, acc, h, l => by
    obtain ⟨sl', e⟩ := h x List.mem_cons_self
    rw [List.length_cons] at l
    rw [List.map_cons, cmpN, e]
    cases q : p x with
    | true =>
      simp only [↓reduceIte]
      rw [if_pos (by omega), cmpN_filt (fun y hy => h y (List.mem_cons_of_mem _ hy)) (by rw [List.length_append]; simp only [List.length_cons, List.length_nil]; omega), List.append_assoc, List.filter_cons, if_pos q]
      rfl
    | false =>
      simp only [Bool.false_eq_true, ↓reduceIte]
      rw [cmpN_filt (fun y hy => h y (List.mem_cons_of_mem _ hy)) (by omega), List.filter_cons, if_neg (by rw [q]; decide)]
theorem txts_str : ∀ l : List Str, txts (l.map .str) = some l
  | [] => rfl
  | x :: r => by
    show (txts (r.map .str)).map (x :: ·) = _
    rw [txts_str r]
    rfl
/-- a def's free, of its parts' -/
def bvne (b : Option Str) (n : Str) : Bool := match b with
  | some x => !decide (n = x)
  | none => true
end U
namespace U
open PySem L2
variable {D : Nat} {h : Hb}
/-- one method's answer -/
def Says (D : Nat) (h : Hb) (v : PV) (m : Nat) (vs : List PV) (r : PV) : Prop := ∃ f, mfind tab h v m = some f ∧ ∀ fs : FS, fs.hp = h → pcall (EV D) f (v :: vs) fs = .ok r fs
def SaysF (D : Nat) (h : Hb) (v : PV) (m : Nat) (vs : List PV) (r : List PV) : Prop := ∃ f, mfind tab h v m = some f ∧ ∀ fs : FS, fs.hp = h → fcall (EV D) f (v :: vs) fs = .ok (.lst r) fs
theorem free_gen (D : Nat) (h : Hb) (v : PV) (ps : List PV) (b : Option Str) (fr : List (List Str)) (hb : Says D h v 2 [] (bv b)) (hok : ∀ x, b = some x → PyData.strOk x = true) (hp : SaysF D h v 0 [] ps)
    (hf : ∀ q ∈ ps.zip fr, SaysF D h q.1 5 [] (q.2.map .str)) (hl : ps.length = fr.length) (hs : ∀ l ∈ fr, ∀ y ∈ l, PyData.strOk y = true) (n : Nat) (hn : ∀ l ∈ fr, l.length ≤ n) (hn2 : n * fr.length < 4000)
    (hd : (dedupT (fr.flatMap fun l => l.filter (bvne b))).length < 64) :
    RUN (D + 1) 12 [v] h = .ok (.lst ((sortT (dedupT (fr.flatMap fun l => l.filter (bvne b)))).map .str)) h := by
  obtain ⟨fb, b1, b2⟩ := hb
  obtain ⟨fp, p1, p2⟩ := hp
  have hc : ∀ (l : List Str) (a b' c d : Sl), (∀ y ∈ l, PyData.strOk y = true) → l.length ≤ 100000 → cmpN (turnR (EV D) (E.var 3) (Tg.n 3) (Ts.cons (T.cmp CO.ne (E.var 3) ((E.var 0).meth 2 Es.nil)) Ts.nil)) (l.map .str) h [.val v, b', c, .un] [] = .ok ((l.filter (bvne b)).map .str) h := by
    intro l a b' c d hl hl2
    refine (cmpN_filt (f := PV.str) (p := bvne b) (fun y hy => ?_) ?_).trans (by rw [List.nil_append])
    · have ey := hl y hy
      cases b with
      | none => exact ⟨_, by simp [b1, b2, bv, bvne, ey]; rfl⟩
      | some x =>
        have ex := hok x rfl
        by_cases q : y = x
        · exact ⟨_, by simp [b1, b2, bv, bvne, ey, ex, q]; rfl⟩
        · exact ⟨_, by simp [b1, b2, bv, bvne, ey, ex, q]; rfl⟩
    · exact le_sz (by simp only [List.length_nil]; omega)
  have key : ∀ (ps : List PV) (fr : List (List Str)) (acc : List Str) (s3 s4 : Sl), blind s4 = s4 → ps.length = fr.length → (∀ q ∈ ps.zip fr, SaysF D h q.1 5 [] (q.2.map .str)) → (∀ l ∈ fr, ∀ y ∈ l, PyData.strOk y = true) → (∀ l ∈ fr, l.length ≤ n) → acc.length + n * fr.length < 4000 →
      ∃ s3', forN (forB (EV D) (Tg.n 2) (Ss.cons (S.ex (E.mo MM.extend 1 (Es.cons (E.lst (LE.comp (E.var 3) (Tg.n 3) (IE.v (E.lst (LE.meth (E.var 2) 5 Es.nil))) [3] (Ts.cons (T.cmp CO.ne (E.var 3) ((E.var 0).meth 2 Es.nil)) Ts.nil))) Es.nil))) Ss.nil)) ps ⟨[.val v, .lst (acc.map .str), s3, .un], h⟩ =
        .ok .nx ⟨[.val v, .lst ((acc ++ fr.flatMap fun l => l.filter (bvne b)).map .str), s3', .un], h⟩ := by
    intro ps
    induction ps with
    | nil =>
      intro fr acc s3 s4 _ hl _ _ _ _
      cases fr with
      | nil => exact ⟨s3, by simp [forN]⟩
      | cons _ _ => cases hl
    | cons p r ih =>
      intro fr acc s3 s4 h4 hl hf hs hn ha
      cases fr with
      | nil => cases hl
      | cons l fr =>
        obtain ⟨ff, f1, f2⟩ := hf (p, l) (by rw [List.zip_cons_cons]; exact List.mem_cons_self)
        have hl1 := hn l List.mem_cons_self
        rw [List.length_cons, Nat.mul_add, Nat.mul_one] at ha
        have hfl : (l.filter (bvne b)).length ≤ l.length := List.length_filter_le _ _
        obtain ⟨s3', e⟩ := ih fr (acc ++ l.filter (bvne b)) (.val p) .un rfl (Nat.succ.inj hl) (fun q hq => hf q (by rw [List.zip_cons_cons]; exact List.mem_cons_of_mem _ hq)) (fun l hl => hs l (List.mem_cons_of_mem _ hl)) (fun l hl => hn l (List.mem_cons_of_mem _ hl)) (by rw [List.length_append]; omega)
        refine ⟨s3', ?_⟩
        have hcl := hc l .un .un (.val p) .un (hs l List.mem_cons_self) (by omega)
        have em : evMM .extend h (acc.map .str) [.lst ((l.filter (bvne b)).map .str)] = some (.non, (acc ++ l.filter (bvne b)).map .str) := by
          rw [ext_l (le_sz (by rw [List.length_map, List.length_map]; omega)), List.map_append]
        rw [forN]
        simp [f1, f2, slLst, blk, wip, blind, hcl, mutS, em, List.set]
        simp only [List.append_assoc, List.map_append, List.flatMap_cons] at e ⊢
        rw [e]
  obtain ⟨s3', e⟩ := key ps fr [] .un .un rfl hl hf hs hn (by rw [List.length_nil]; omega)
  simp only [List.map_nil, List.nil_append] at e
  have hsr : srtsO h (.lst ((fr.flatMap fun l => l.filter (bvne b)).map .str)) = some ((sortT (dedupT (fr.flatMap fun l => l.filter (bvne b)))).map .str) := by
    show (asL h (.lst _)).bind _ = _
    rw [asL_lst]
    show (txts _).bind _ = _
    rw [txts_str]
    have hlen : ∀ fr : List (List Str), (∀ l ∈ fr, l.length ≤ n) → (fr.flatMap fun l => l.filter (bvne b)).length ≤ n * fr.length := by
      intro fr
      induction fr with
      | nil => intro _; simp
      | cons l r ih =>
        intro h
        have := ih fun l hl => h l (List.mem_cons_of_mem _ hl)
        have h1 := h l List.mem_cons_self
        have h2 : (l.filter (bvne b)).length ≤ l.length := List.length_filter_le _ _
        rw [List.flatMap_cons, List.length_append, List.length_cons, Nat.mul_add, Nat.mul_one]
        omega
    have := hlen fr hn
    exact if_pos ⟨by omega, hd⟩
  rw [R_Term_free]
  simp [b_Term_free, p1, p2, e, hsr]
theorem says_parts (t : Tm) (hD : 1 ≤ D) : SaysF D h t.v 0 [] (t.parts.map Tm.v) := by
  obtain ⟨f, e1, e2⟩ := r_parts (h := h) t hD
  exact ⟨f, e1, fun fs hf => by rw [e2]; rfl⟩
theorem says_binds (t : Tm) (hD : 1 ≤ D) : Says D h t.v 2 [] (bv t.binds) := by
  obtain ⟨f, e1, e2⟩ := r_binds (h := h) t hD
  exact ⟨f, e1, fun fs hf => by rw [e2]; rfl⟩
theorem says_told (t : Tm) (hD : t.depth ≤ D) : Says D h t.v 3 [] t.told := by
  obtain ⟨f, e1, e2⟩ := r_told (h := h) t hD
  exact ⟨f, e1, fun fs hf => by rw [e2]; rfl⟩
theorem free_ok (t : Tm) : t.Ok → ∀ y ∈ t.freeL, OkN y := by
  induction t with
  | opn => intro _ y hy; simp [Tm.freeL, dedupT, sortT] at hy
  | num x => intro _ y hy; simp [Tm.freeL, dedupT, sortT] at hy
  | name x => intro h y hy; simp only [Tm.freeL, List.mem_singleton] at hy; rw [hy]; exact h
  | mk x b ih =>
    intro h y hy
    simp only [Tm.freeL, sortT_mem, dedupT_mem, List.mem_filter] at hy
    exact ih h.2 y hy.1
  | again x b ih =>
    intro h y hy
    simp only [Tm.freeL, sortT_mem, dedupT_mem, List.mem_filter] at hy
    exact ih h.2 y hy.1
  | give a b ia ib =>
    intro h y hy
    simp only [Tm.freeL, sortT_mem, dedupT_mem, List.mem_append] at hy
    rcases hy with e | e
    · exact ia h.1 y e
    · exact ib h.2 y e
  | sum s a b ia ib =>
    intro h y hy
    simp only [Tm.freeL, sortT_mem, dedupT_mem, List.mem_append] at hy
    rcases hy with e | e
    · exact ia h.2.1 y e
    · exact ib h.2.2 y e
  | cho a b c ia ib ic =>
    intro h y hy
    simp only [Tm.freeL, sortT_mem, dedupT_mem, List.mem_append] at hy
    rcases hy with e | e | e
    · exact ia h.1 y e
    · exact ib h.2.1 y e
    · exact ic h.2.2 y e
theorem binds_ok {t : Tm} (ok : t.Ok) : ∀ x, t.binds = some x → PyData.strOk x = true := by
  cases t with
  | mk y b => intro x e; cases e; exact ok.1.strOk
  | again y b => intro x e; cases e; exact ok.1.strOk
  | _ => intro x e; cases e
theorem filt_none (l : List Str) : l.filter (bvne none) = l := List.filter_eq_self.mpr fun _ _ => rfl
theorem free_eq (t : Tm) (hn : ∀ x, t ≠ .name x) : t.freeL = sortT (dedupT ((t.parts.map Tm.freeL).flatMap fun l => l.filter (bvne t.binds))) := by
  cases t with
  | name x => exact absurd rfl (hn x)
  | opn => rfl
  | num x => rfl
  | mk x b => simp [Tm.freeL, Tm.parts, Tm.binds]; rfl
  | again x b => simp [Tm.freeL, Tm.parts, Tm.binds]; rfl
  | give a b => simp [Tm.freeL, Tm.parts, Tm.binds, filt_none]
  | sum s a b => simp [Tm.freeL, Tm.parts, Tm.binds, filt_none]
  | cho a b c => simp [Tm.freeL, Tm.parts, Tm.binds, filt_none]
theorem parts_depth {t p : Tm} (h : p ∈ t.parts) : p.depth + 1 ≤ t.depth := by
  cases t <;> simp only [Tm.parts, List.mem_cons, List.not_mem_nil, or_false] at h
  · rw [h]; exact Nat.le_refl _
  · rcases h with h | h <;> (rw [h]; simp only [Tm.depth]; omega)
  · rcases h with h | h <;> (rw [h]; simp only [Tm.depth]; omega)
  · rcases h with h | h | h <;> (rw [h]; simp only [Tm.depth]; omega)
  · rw [h]; exact Nat.le_refl _
theorem parts_ok {t p : Tm} (h : p ∈ t.parts) (ok : t.Ok) : p.Ok := by
  cases t <;> simp only [Tm.parts, List.mem_cons, List.not_mem_nil, or_false] at h
  · rw [h]; exact ok.2
  · rcases h with h | h <;> (rw [h]; first | exact ok.1 | exact ok.2)
  · rcases h with h | h <;> (rw [h]; first | exact ok.2.1 | exact ok.2.2)
  · rcases h with h | h | h <;> (rw [h]; first | exact ok.1 | exact ok.2.1 | exact ok.2.2)
  · rw [h]; exact ok.2
def bcons (b : Option Str) (xs : List Str) : List Str := match b with
  | some x => x :: xs
  | none => xs
theorem bcons_len (b : Option Str) (xs : List Str) : (bcons b xs).length ≤ xs.length + 1 := by
  cases b <;> simp [bcons]
theorem parts_in {t p : Tm} {xs : List Str} (h : p ∈ t.parts) (ok : t.In xs) : p.In (bcons t.binds xs) := by
  cases t <;> simp only [Tm.parts, List.mem_cons, List.not_mem_nil, or_false] at h
  · rw [h]; exact ok
  · rcases h with h | h <;> (rw [h]; first | exact ok.1 | exact ok.2)
  · rcases h with h | h <;> (rw [h]; first | exact ok.1 | exact ok.2)
  · rcases h with h | h | h <;> (rw [h]; first | exact ok.1 | exact ok.2.1 | exact ok.2.2)
  · rw [h]; exact ok
theorem parts_len (t : Tm) : t.parts.length ≤ 3 := by cases t <;> simp [Tm.parts]
theorem parts_ind {P : Tm → Prop} (h : ∀ t : Tm, (∀ p ∈ t.parts, P p) → P t) (t : Tm) : P t := by
  induction t with
  | opn => exact h _ fun p hp => by cases hp
  | num x => exact h _ fun p hp => by cases hp
  | name x => exact h _ fun p hp => by cases hp
  | mk x b ih => exact h _ fun p hp => by simp only [Tm.parts, List.mem_singleton] at hp; rw [hp]; exact ih
  | again x b ih => exact h _ fun p hp => by simp only [Tm.parts, List.mem_singleton] at hp; rw [hp]; exact ih
  | give a b ia ib =>
    refine h _ fun p hp => ?_
    simp only [Tm.parts, List.mem_cons, List.not_mem_nil, or_false] at hp
    rcases hp with q | q <;> (rw [q]; first | exact ia | exact ib)
  | sum s a b ia ib =>
    refine h _ fun p hp => ?_
    simp only [Tm.parts, List.mem_cons, List.not_mem_nil, or_false] at hp
    rcases hp with q | q <;> (rw [q]; first | exact ia | exact ib)
  | cho a b c ia ib ic =>
    refine h _ fun p hp => ?_
    simp only [Tm.parts, List.mem_cons, List.not_mem_nil, or_false] at hp
    rcases hp with q | q | q <;> (rw [q]; first | exact ia | exact ib | exact ic)
theorem says_free (t : Tm) : ∀ {D : Nat} {h : Hb} {xs : List Str}, t.Ok → t.In xs → xs.length + t.depth ≤ 60 → t.depth + 1 ≤ D → SaysF D h t.v 5 [] (t.freeL.map .str) := by
  refine parts_ind (P := fun t => ∀ {D : Nat} {h : Hb} {xs : List Str}, t.Ok → t.In xs → xs.length + t.depth ≤ 60 → t.depth + 1 ≤ D → SaysF D h t.v 5 [] (t.freeL.map .str)) (fun t ih => ?_) t
  intro D h xs ok hin hl hD
  obtain ⟨D, rfl, h1⟩ := suc hD
  by_cases hn : ∃ x, t = .name x
  · obtain ⟨x, rfl⟩ := hn
    refine ⟨_, rfl, fun fs hf => ?_⟩
    simp [Tm.v, R_Name_free, b_Name_free, Tm.freeL]
  · have hn2 : ∀ x, t ≠ .name x := fun x e => hn ⟨x, e⟩
    have e : ∀ fs : FS, fcall (EV (D + 1)) 12 [t.v] fs = R.up fs (RUN (D + 1) 12 [t.v] fs.hp) := fun fs => pc_Term_free _ _ _
    have hd1 : 1 ≤ t.depth := by cases t <;> simp [Tm.depth]
    have key := free_gen D h t.v (t.parts.map Tm.v) t.binds (t.parts.map Tm.freeL) (says_binds t (by omega)) (binds_ok ok) (says_parts t (by omega)) (fun q hq => ?_) (by rw [List.length_map, List.length_map]) (fun l hl y hy => ?_) 60 (fun l hl => ?_) ?_ ?_
    · rw [← free_eq t hn2] at key
      have hm : mfind tab h t.v 5 = some 12 := by cases t with
        | name x => exact absurd rfl (hn2 x)
        | _ => rfl
      refine ⟨12, hm, fun fs hf => ?_⟩
      rw [e, hf, key]
      subst hf
      rfl
    · obtain ⟨p, hp, rfl⟩ : ∃ p ∈ t.parts, q = (p.v, p.freeL) := by
        rw [List.zip_map'] at hq
        obtain ⟨p, hp, e⟩ := List.mem_map.mp hq
        exact ⟨p, hp, e.symm⟩
      have d1 := parts_depth hp
      have b1 := bcons_len t.binds xs
      exact ih p hp (parts_ok hp ok) (parts_in hp hin) (by omega) (by omega)
    · obtain ⟨p, hp, rfl⟩ := List.mem_map.mp hl
      exact (free_ok p (parts_ok hp ok) y hy).strOk
    · obtain ⟨p, hp, rfl⟩ := List.mem_map.mp hl
      have := free_len (parts_in hp hin)
      have b1 := bcons_len t.binds xs
      omega
    · rw [List.length_map]
      have := parts_len t
      omega
    · have q1 := free_len hin
      rw [free_eq t hn2, sortT_len] at q1
      omega
theorem r_must_be_closed {t : Tm} (ok : t.Ok) (hin : t.In []) (hl : t.depth ≤ 60) (hD : t.depth + 2 ≤ D) : RUN D 55 [t.v] h = .ok .non h := by
  obtain ⟨D, rfl, h1⟩ := suc hD
  obtain ⟨f, e1, e2⟩ := says_free t (D := D) (h := h) ok hin (by simpa using hl) h1
  rw [In.closed hin] at e2
  simp [R_must_be_closed, b_must_be_closed, e1, e2]
end U
namespace U
open PySem L2
variable {D : Nat} {h : Hb}
def Tm.size : Tm → Nat
  | .opn => 1
  | .name _ => 1
  | .num _ => 1
  | .mk _ b => 1 + b.size
  | .give m g => 1 + m.size + g.size
  | .sum _ a b => 1 + a.size + b.size
  | .cho a b c => 1 + a.size + b.size + c.size
  | .again _ b => 1 + b.size
/-- values tell their terms -/
theorem v_inj : ∀ {t u : Tm}, t.v = u.v → t = u := by
  intro t
  induction t with
  | opn => intro u e; cases u <;> simp [Tm.v] at e ⊢
  | num x => intro u e; cases u <;> simp [Tm.v] at e ⊢; exact e
  | name x => intro u e; cases u <;> simp [Tm.v] at e ⊢; exact e
  | mk x b ih => intro u e; cases u <;> simp [Tm.v] at e ⊢; exact ⟨e.1, ih e.2⟩
  | again x b ih => intro u e; cases u <;> simp [Tm.v] at e ⊢; exact ⟨e.1, ih e.2⟩
  | give a b ia ib => intro u e; cases u <;> simp [Tm.v] at e ⊢; exact ⟨ia e.1, ib e.2⟩
  | sum s a b ia ib => intro u e; cases u <;> simp [Tm.v] at e ⊢; exact ⟨e.1, ia e.2.1, ib e.2.2⟩
  | cho a b c ia ib ic => intro u e; cases u <;> simp [Tm.v] at e ⊢; exact ⟨ia e.1, ib e.2.1, ic e.2.2⟩
abbrev Ties := List (Str × PV)
def kOf (x : Str) : Key := .inr x
def tiesV (ts : Ties) : PV := .dic (ts.map fun q => kOf q.1) (ts.map fun q => q.2)
def tget : Ties → Str → Option PV
  | [], _ => none
  | (k, v) :: r, x => if k = x then some v else tget r x
def kvs (ts : Ties) : List (Key × PV) := ts.map fun q => (kOf q.1, q.2)
@[simp] theorem zip_ties : ∀ ts : Ties, zipD (ts.map fun q => kOf q.1) (ts.map fun q => q.2) = kvs ts
  | [] => rfl
  | q :: r => by
    rw [List.map_cons, List.map_cons, zipD, zip_ties r]
    rfl
@[simp] theorem dGet_ties (x : Str) : ∀ ts : Ties, dGet (kvs ts) (.inr x) = tget ts x
  | [] => rfl
  | (k, v) :: r => by
    show (if kOf k = Sum.inr x then some v else dGet (kvs r) (.inr x)) = if k = x then some v else tget r x
    rw [dGet_ties x r]
    by_cases q : k = x
    · rw [if_pos q, if_pos (by rw [q]; rfl)]
    · rw [if_neg q, if_neg (show ¬ kOf k = Sum.inr x from fun e => q (Sum.inr.inj e))]
theorem tget_mem {x : Str} {l : PV} : ∀ {ts : Ties}, tget ts x = some l → (x, l) ∈ ts
  | [], e => by cases e
  | (k, v) :: r, e => by
    rw [tget] at e
    split at e
    · rename_i q; cases e; rw [q]; exact List.mem_cons_self
    · exact List.mem_cons_of_mem _ (tget_mem e)
theorem tget_in {x : Str} : ∀ {ts : Ties}, x ∈ ts.map (fun q => q.1) → ∃ l, tget ts x = some l
  | [], h => by cases h
  | (k, v) :: r, h => by
    rw [tget]
    by_cases q : k = x
    · exact ⟨v, if_pos q⟩
    · rw [if_neg q]
      rcases List.mem_cons.mp h with e | e
      · exact absurd e.symm q
      · exact tget_in e
def lMany : PV → Int
  | .ins _ [_, _, .int m, _, _] => m
  | _ => 0
def lDeep : PV → Int
  | .ins _ [_, _, _, .int d, _] => d
  | _ => 0
def lFull : PV → PV
  | .ins _ [_, _, _, _, f] => f
  | _ => .non
open Classical in
noncomputable def tmOf (f : PV) : Tm := if h : ∃ u : Tm, f = u.v then h.choose else .opn
theorem tmOf_v (u : Tm) : tmOf u.v = u := by
  have h : ∃ w : Tm, u.v = w.v := ⟨u, rfl⟩
  unfold tmOf
  rw [dif_pos h]
  exact (v_inj h.choose_spec).symm
def Beyond (r : Int × Int) : Prop := r.1 > 600 ∨ r.2 > 60
instance (r : Int × Int) : Decidable (Beyond r) := inferInstanceAs (Decidable (_ ∨ _))
def meas : Tm → Ties → List Str → Int × Int
  | .opn, _, _ => (1, 1)
  | .num _, _, _ => (1, 1)
  | .name x, ts, hid => if x ∈ hid then (1, 1) else match tget ts x with
    | some l => (lMany l, lDeep l)
    | none => (1, 1)
  | .mk x b, ts, hid => (1 + (meas b ts (hid ++ [x])).1, max 0 (meas b ts (hid ++ [x])).2 + 1)
  | .again x b, ts, hid => (1 + (meas b ts (hid ++ [x])).1, max 0 (meas b ts (hid ++ [x])).2 + 1)
  | .give m g, ts, hid => (1 + (meas m ts hid).1 + (meas g ts hid).1, max (max 0 (meas m ts hid).2) (meas g ts hid).2 + 1)
  | .sum _ m g, ts, hid => (1 + (meas m ts hid).1 + (meas g ts hid).1, max (max 0 (meas m ts hid).2) (meas g ts hid).2 + 1)
  | .cho a b c, ts, hid => (1 + (meas a ts hid).1 + (meas b ts hid).1 + (meas c ts hid).1, max (max (max 0 (meas a ts hid).2) (meas b ts hid).2) (meas c ts hid).2 + 1)
noncomputable def rbT : Tm → Ties → List Str → Tm
  | .opn, _, _ => .opn
  | .num i, _, _ => .num i
  | .name x, ts, hid => if x ∈ hid then .name x else match tget ts x with
    | some l => tmOf (lFull l)
    | none => .name x
  | .mk x b, ts, hid => .mk x (rbT b ts (hid ++ [x]))
  | .again x b, ts, hid => .again x (rbT b ts (hid ++ [x]))
  | .give m g, ts, hid => .give (rbT m ts hid) (rbT g ts hid)
  | .sum s m g, ts, hid => .sum s (rbT m ts hid) (rbT g ts hid)
  | .cho a b c, ts, hid => .cho (rbT a ts hid) (rbT b ts hid) (rbT c ts hid)
open Classical in
noncomputable def fullV (t : Tm) (ts : Ties) : PV := if Beyond (meas t ts []) then .non else (rbT t ts []).v
noncomputable def lateV (t : Tm) (ts : Ties) : PV := .ins 23 [t.v, tiesV ts, .int (meas t ts []).1, .int (meas t ts []).2, fullV t ts]
/-- what is known of a put-off thing from outside -/
structure FOk (l : PV) : Prop where
  sh : ∃ a b, l = .ins 23 [a, b, .int (lMany l), .int (lDeep l), lFull l]
  m1 : 1 ≤ lMany l
  d1 : 1 ≤ lDeep l
  fu : ¬ Beyond (lMany l, lDeep l) → ∃ u : Tm, lFull l = u.v ∧ u.Ok ∧ u.In [] ∧ (u.size : Int) = lMany l ∧ (u.depth : Int) = lDeep l
theorem inL_str (x : Str) : ∀ l : List Str, inL (.str x) (l.map .str) = decide (x ∈ l)
  | [] => rfl
  | y :: r => by
    rw [List.map_cons, inL, inL_str x r, eqv_ss]
    by_cases q : y = x
    · simp [q]
    · have q2 : ¬ x = y := fun e => q e.symm
      simp [q, q2]
theorem flat_str : ∀ l : List Str, (l.map PV.str).all flat = true
  | [] => rfl
  | y :: r => by rw [List.map_cons, List.all_cons, flat_str r]; rfl
theorem in_hid (x : Str) (hid : List Str) : evIn h (.str x) (.tup (hid.map .str)) = some (decide (x ∈ hid)) := by
  rw [in_tup rfl (flat_str hid), inL_str]
/-- hidden names behind a binder -/
def hidB (hid : List Str) (b : Option Str) : List Str := match b with
  | some x => hid ++ [x]
  | none => hid
def mAdd (a b : Int × Int) : Int × Int := (a.1 + b.1, max a.2 b.2)
theorem meas_eq (t : Tm) (ts : Ties) (hid : List Str) (hn : ∀ x, t ≠ .name x) : meas t ts hid = (((t.parts.map fun p => meas p ts (hidB hid t.binds)).foldl mAdd (1, 0)).1, ((t.parts.map fun p => meas p ts (hidB hid t.binds)).foldl mAdd (1, 0)).2 + 1) := by
  cases t with
  | name x => exact absurd rfl (hn x)
  | _ => rfl
theorem r_measured (t : Tm) : ∀ {D : Nat} {h : Hb} {ts : Ties} {hid : List Str}, t.Ok → (∀ q ∈ ts, FOk q.2) → hid.length + t.depth ≤ 1000 → t.depth + 1 ≤ D → RUN D 74 [t.v, tiesV ts, .tup (hid.map .str)] h = .ok (.tup [.int (meas t ts hid).1, .int (meas t ts hid).2]) h := by
  refine parts_ind (P := fun t => ∀ {D : Nat} {h : Hb} {ts : Ties} {hid : List Str}, t.Ok → (∀ q ∈ ts, FOk q.2) → hid.length + t.depth ≤ 1000 → t.depth + 1 ≤ D → RUN D 74 [t.v, tiesV ts, .tup (hid.map .str)] h = .ok (.tup [.int (meas t ts hid).1, .int (meas t ts hid).2]) h) (fun t ih => ?_) t
  intro D h ts hid ok ft hl hD
  obtain ⟨D, rfl, h1⟩ := suc hD
  by_cases hn : ∃ x, t = .name x
  · obtain ⟨x, rfl⟩ := hn
    have e1 := fun h => in_hid (h := h) x hid
    by_cases q : x ∈ hid
    · simp [R_measured, b_measured, Tm.v, e1, q, meas]
    · cases z : tget ts x with
      | none => simp [R_measured, b_measured, Tm.v, e1, q, meas, tiesV, z]
      | some l =>
        obtain ⟨a, b, e⟩ := (ft _ (tget_mem z)).sh
        dsimp only at e
        have f1 : ∀ h, fldV tab h l 15 = some (.int (lMany l)) := fun h => by rw [e]; rfl
        have f2 : ∀ h, fldV tab h l 16 = some (.int (lDeep l)) := fun h => by rw [e]; rfl
        simp [R_measured, b_measured, Tm.v, e1, q, meas, tiesV, z, f1, f2]
  · have hn2 : ∀ x, t ≠ .name x := fun x e => hn ⟨x, e⟩
    have hi : isOne tab h t.v (.cls 16) = some false := by
      cases t with
      | name x => exact absurd rfl (hn2 x)
      | _ => rfl
    have d1 : 1 ≤ t.depth := by cases t <;> simp [Tm.depth]
    obtain ⟨fb, b1, b2⟩ := says_binds (D := D) (h := h) t (by omega)
    obtain ⟨fp, p1, p2⟩ := says_parts (D := D) (h := h) t (by omega)
    have key : ∀ (ps : List Tm) (hd : List Str) (a : Int × Int) (s5 s6 s7 : Sl), (∀ p ∈ ps, RUN D 74 [p.v, tiesV ts, .tup (hd.map .str)] h = .ok (.tup [.int (meas p ts hd).1, .int (meas p ts hd).2]) h) →
        ∃ s5' s6' s7', forN (forB (EV D) (Tg.n 5) (Ss.cons (S.unp [6, 7] (E.call 74 (Es.cons (E.var 5) (Es.cons (E.var 1) (Es.cons (E.var 2) Es.nil))))) (Ss.cons (S.aug 3 BO.add (E.var 6)) (Ss.cons (S.set 4 (E.bf BF.max2 (Es.cons (E.var 4) (Es.cons (E.var 7) Es.nil)))) Ss.nil)))) (ps.map Tm.v)
            ⟨[.val t.v, .val (tiesV ts), .val (.tup (hd.map .str)), .val (.int a.1), .val (.int a.2), s5, s6, s7], h⟩ =
          .ok .nx ⟨[.val t.v, .val (tiesV ts), .val (.tup (hd.map .str)), .val (.int ((ps.map fun p => meas p ts hd).foldl mAdd a).1), .val (.int ((ps.map fun p => meas p ts hd).foldl mAdd a).2), s5', s6', s7'], h⟩ := by
      intro ps
      induction ps with
      | nil => intro hd a s5 s6 s7 _; exact ⟨s5, s6, s7, rfl⟩
      | cons p r ihr =>
        intro hd a s5 s6 s7 hp
        obtain ⟨s5', s6', s7', e⟩ := ihr hd (mAdd a (meas p ts hd)) (.val p.v) (.val (.int (meas p ts hd).1)) (.val (.int (meas p ts hd).2)) fun q hq => hp q (List.mem_cons_of_mem _ hq)
        refine ⟨s5', s6', s7', ?_⟩
        have hp1 := hp p List.mem_cons_self
        rw [List.map_cons, forN]
        simp only [mAdd] at e
        simp [hp1, e, mAdd]
    rw [meas_eq t ts hid hn2]
    cases hb : t.binds with
    | none =>
      rw [hb] at b2
      have ihp : ∀ p ∈ t.parts, RUN D 74 [p.v, tiesV ts, .tup (hid.map .str)] h = .ok (.tup [.int (meas p ts hid).1, .int (meas p ts hid).2]) h := fun p hp => by
        have := parts_depth hp
        exact ih p hp (parts_ok hp ok) ft (by omega) (by omega)
      obtain ⟨s5, s6, s7, e⟩ := key t.parts hid (1, 0) .un .un .un ihp
      simp [R_measured, b_measured, hi, b1, b2, bv, isNon, p1, p2, e, hidB]
    | some x =>
      rw [hb] at b2
      have ihp : ∀ p ∈ t.parts, RUN D 74 [p.v, tiesV ts, .tup ((hid ++ [x]).map .str)] h = .ok (.tup [.int (meas p ts (hid ++ [x])).1, .int (meas p ts (hid ++ [x])).2]) h := fun p hp => by
        have := parts_depth hp
        exact ih p hp (parts_ok hp ok) ft (by simp only [List.length_append, List.length_cons, List.length_nil]; omega) (by omega)
      obtain ⟨s5, s6, s7, e⟩ := key t.parts (hid ++ [x]) (1, 0) .un .un .un ihp
      have ea : evBin .add (.tup (hid.map .str)) (.tup [.str x]) = some (.tup ((hid ++ [x]).map .str)) := by
        rw [bin_add_tt (le_sz (by simp only [List.length_map, List.length_cons, List.length_nil]; omega)), List.map_append]
        rfl
      simp [R_measured, b_measured, hi, b1, b2, bv, isNon, p1, p2, ea, hidB]
      simp only [List.map_append, List.map_cons, List.map_nil] at e
      simp [e]
def rebuild : Tm → List Tm → Tm
  | .mk x _, [b] => .mk x b
  | .again x _, [b] => .again x b
  | .give _ _, [a, b] => .give a b
  | .sum s _ _, [a, b] => .sum s a b
  | .cho _ _ _, [a, b, c] => .cho a b c
  | t, _ => t
theorem says_rebuilt (t : Tm) (us : List Tm) (ok : t.Ok) (hl : us.length = t.parts.length) (hD : 5 ≤ D) : Says D h t.v 1 [.lst (us.map Tm.v)] (rebuild t us).v := by
  obtain ⟨D, rfl, h1⟩ := suc hD
  cases t with
  | opn => exact ⟨_, rfl, fun fs hf => by simp [R_Term_rebuilt, b_Term_rebuilt, rebuild]⟩
  | num i => exact ⟨_, rfl, fun fs hf => by simp [R_Term_rebuilt, b_Term_rebuilt, rebuild]⟩
  | name x => exact ⟨_, rfl, fun fs hf => by simp [R_Term_rebuilt, b_Term_rebuilt, rebuild]⟩
  | mk x b =>
    match us, hl with
    | [u], _ =>
      have e := fun fs => m_mk (D := D) (x := x) (b := u) (by omega) ok.1 fs
      simp only [Tm.v] at e
      exact ⟨_, rfl, fun fs hf => by simp [R_Maker_rebuilt, b_Maker_rebuilt, rebuild, Tm.v, e]⟩
  | again x b =>
    match us, hl with
    | [u], _ =>
      have e := fun fs => m_again (D := D) (x := x) (b := u) (by omega) ok.1 fs
      simp only [Tm.v] at e
      exact ⟨_, rfl, fun fs hf => by simp [R_Again_rebuilt, b_Again_rebuilt, rebuild, Tm.v, e]⟩
  | give a b =>
    match us, hl with
    | [u, w], _ =>
      have e := fun fs => m_give (D := D) (a := u) (b := w) (by omega) fs
      simp only [Tm.v] at e
      exact ⟨_, rfl, fun fs hf => by simp [R_Give_rebuilt, b_Give_rebuilt, rebuild, Tm.v, e]⟩
  | sum s a b =>
    match us, hl with
    | [u, w], _ =>
      have e := fun fs => m_sum (D := D) (s := s) (a := u) (b := w) (by omega) ok.1 fs
      simp only [Tm.v] at e
      exact ⟨_, rfl, fun fs hf => by simp [R_Sum_rebuilt, b_Sum_rebuilt, rebuild, Tm.v, e]⟩
  | cho a b c =>
    match us, hl with
    | [u, w, z], _ =>
      have e := fun fs => m_cho (D := D) (a := u) (b := w) (c := z) (by omega) fs
      simp only [Tm.v] at e
      exact ⟨_, rfl, fun fs hf => by simp [R_Choice_rebuilt, b_Choice_rebuilt, rebuild, Tm.v, e]⟩
theorem rbT_eq (t : Tm) (ts : Ties) (hid : List Str) (hn : ∀ x, t ≠ .name x) : rbT t ts hid = rebuild t (t.parts.map fun p => rbT p ts (hidB hid t.binds)) := by
  cases t with
  | name x => exact absurd rfl (hn x)
  | _ => rfl
/-- what is read back is as great as was reckoned -/
theorem meas_pos (t : Tm) : ∀ {ts : Ties} {hid : List Str}, (∀ q ∈ ts, FOk q.2) → 1 ≤ (meas t ts hid).1 ∧ 1 ≤ (meas t ts hid).2 := by
  induction t with
  | opn => intro ts hid _; exact ⟨Int.le_refl _, Int.le_refl _⟩
  | num i => intro ts hid _; exact ⟨Int.le_refl _, Int.le_refl _⟩
  | name x =>
    intro ts hid ft
    rw [meas]
    split
    · exact ⟨Int.le_refl _, Int.le_refl _⟩
    · split
      · rename_i l z
        exact ⟨(ft _ (tget_mem z)).m1, (ft _ (tget_mem z)).d1⟩
      · exact ⟨Int.le_refl _, Int.le_refl _⟩
  | mk x b ih => intro ts hid ft; have := ih (hid := hid ++ [x]) ft; simp only [meas]; omega
  | again x b ih => intro ts hid ft; have := ih (hid := hid ++ [x]) ft; simp only [meas]; omega
  | give a b ia ib => intro ts hid ft; have := ia (hid := hid) ft; have := ib (hid := hid) ft; simp only [meas]; omega
  | sum s a b ia ib => intro ts hid ft; have := ia (hid := hid) ft; have := ib (hid := hid) ft; simp only [meas]; omega
  | cho a b c ia ib ic => intro ts hid ft; have := ia (hid := hid) ft; have := ib (hid := hid) ft; have := ic (hid := hid) ft; simp only [meas]; omega
theorem part_beyond {t p : Tm} {ts : Ties} {hid : List Str} (ft : ∀ q ∈ ts, FOk q.2) (hp : p ∈ t.parts) (nb : ¬ Beyond (meas t ts hid)) : ¬ Beyond (meas p ts (hidB hid t.binds)) := by
  unfold Beyond at nb ⊢
  cases t <;> simp only [Tm.parts, List.mem_cons, List.not_mem_nil, or_false] at hp
  · rename_i x b
    subst hp
    have := meas_pos p (hid := hid ++ [x]) ft
    simp only [meas, Tm.binds, hidB] at nb ⊢
    omega
  · rename_i a b
    have := meas_pos a (hid := hid) ft
    have := meas_pos b (hid := hid) ft
    simp only [meas, Tm.binds, hidB] at nb ⊢
    rcases hp with e | e <;> (subst e; omega)
  · rename_i s a b
    have := meas_pos a (hid := hid) ft
    have := meas_pos b (hid := hid) ft
    simp only [meas, Tm.binds, hidB] at nb ⊢
    rcases hp with e | e <;> (subst e; omega)
  · rename_i a b c
    have := meas_pos a (hid := hid) ft
    have := meas_pos b (hid := hid) ft
    have := meas_pos c (hid := hid) ft
    simp only [meas, Tm.binds, hidB] at nb ⊢
    rcases hp with e | e | e <;> (subst e; omega)
  · rename_i x b
    subst hp
    have := meas_pos p (hid := hid ++ [x]) ft
    simp only [meas, Tm.binds, hidB] at nb ⊢
    omega
theorem Tm.In.mono : ∀ {t : Tm} {xs ys : List Str}, t.In xs → (∀ x ∈ xs, x ∈ ys) → t.In ys := by
  intro t
  induction t with
  | opn => intro xs ys _ _; trivial
  | num i => intro xs ys _ _; trivial
  | name x => intro xs ys h s; exact s x h
  | mk x b ih => intro xs ys h s; exact ih h fun y hy => by rcases List.mem_cons.mp hy with e | e; exact List.mem_cons.mpr (.inl e); exact List.mem_cons_of_mem _ (s y e)
  | again x b ih => intro xs ys h s; exact ih h fun y hy => by rcases List.mem_cons.mp hy with e | e; exact List.mem_cons.mpr (.inl e); exact List.mem_cons_of_mem _ (s y e)
  | give a b ia ib => intro xs ys h s; exact ⟨ia h.1 s, ib h.2 s⟩
  | sum s a b ia ib => intro xs ys h s; exact ⟨ia h.1 s, ib h.2 s⟩
  | cho a b c ia ib ic => intro xs ys h s; exact ⟨ia h.1 s, ib h.2.1 s, ic h.2.2 s⟩
/-- what comes of reading back -/
theorem rb_ok (t : Tm) : ∀ {ts : Ties} {hid : List Str}, t.Ok → (∀ q ∈ ts, FOk q.2) → t.In (hid ++ ts.map fun q => q.1) → ¬ Beyond (meas t ts hid) →
    (rbT t ts hid).Ok ∧ (rbT t ts hid).In hid ∧ ((rbT t ts hid).size : Int) = (meas t ts hid).1 ∧ ((rbT t ts hid).depth : Int) = (meas t ts hid).2 := by
  have up : ∀ {t : Tm} {x : Str} {hid ys : List Str}, t.In (x :: (hid ++ ys)) → t.In ((hid ++ [x]) ++ ys) := fun h => h.mono fun y hy => by
    simp only [List.mem_cons, List.mem_append, List.mem_singleton] at hy ⊢
    rcases hy with e | e | e <;> simp [e]
  have dn : ∀ {t : Tm} {x : Str} {hid : List Str}, t.In (hid ++ [x]) → t.In (x :: hid) := fun h => h.mono fun y hy => by
    simp only [List.mem_cons, List.mem_append, List.mem_singleton, List.not_mem_nil, or_false] at hy ⊢
    rcases hy with e | e <;> simp [e]
  induction t with
  | opn => intro ts hid _ _ _ _; exact ⟨trivial, trivial, rfl, rfl⟩
  | num i => intro ts hid _ _ _ _; exact ⟨trivial, trivial, rfl, rfl⟩
  | name x =>
    intro ts hid ok ft hin nb
    rw [rbT]
    rw [meas] at nb ⊢
    by_cases q : x ∈ hid
    · rw [if_pos q, if_pos q]
      exact ⟨ok, q, rfl, rfl⟩
    · rw [if_neg q] at nb ⊢
      rw [if_neg q]
      rcases List.mem_append.mp (show x ∈ hid ++ ts.map fun q => q.1 from hin) with e | e
      · exact absurd e q
      · obtain ⟨l, z⟩ := tget_in e
        rw [z] at nb ⊢
        obtain ⟨u, u1, u2, u3, u4, u5⟩ := (ft _ (tget_mem z)).fu nb
        dsimp only at u1 u4 u5 ⊢
        rw [u1, tmOf_v]
        exact ⟨u2, u3.mono (fun y hy => by cases hy), u4, u5⟩
  | mk x b ih =>
    intro ts hid ok ft hin nb
    obtain ⟨i1, i2, i3, i4⟩ := ih (hid := hid ++ [x]) ok.2 ft (up hin) (part_beyond ft List.mem_cons_self nb)
    have := meas_pos b (hid := hid ++ [x]) ft
    simp only [rbT, meas, Tm.size, Tm.depth]
    exact ⟨⟨ok.1, i1⟩, dn i2, by omega, by omega⟩
  | again x b ih =>
    intro ts hid ok ft hin nb
    obtain ⟨i1, i2, i3, i4⟩ := ih (hid := hid ++ [x]) ok.2 ft (up hin) (part_beyond ft List.mem_cons_self nb)
    have := meas_pos b (hid := hid ++ [x]) ft
    simp only [rbT, meas, Tm.size, Tm.depth]
    exact ⟨⟨ok.1, i1⟩, dn i2, by omega, by omega⟩
  | give a b ia ib =>
    intro ts hid ok ft hin nb
    obtain ⟨i1, i2, i3, i4⟩ := ia (hid := hid) ok.1 ft hin.1 (part_beyond (t := .give a b) ft List.mem_cons_self nb)
    obtain ⟨j1, j2, j3, j4⟩ := ib (hid := hid) ok.2 ft hin.2 (part_beyond (t := .give a b) ft (List.mem_cons_of_mem _ List.mem_cons_self) nb)
    have := meas_pos a (hid := hid) ft
    have := meas_pos b (hid := hid) ft
    simp only [rbT, meas, Tm.size, Tm.depth]
    exact ⟨⟨i1, j1⟩, ⟨i2, j2⟩, by omega, by omega⟩
  | sum s a b ia ib =>
    intro ts hid ok ft hin nb
    obtain ⟨i1, i2, i3, i4⟩ := ia (hid := hid) ok.2.1 ft hin.1 (part_beyond (t := .sum s a b) ft List.mem_cons_self nb)
    obtain ⟨j1, j2, j3, j4⟩ := ib (hid := hid) ok.2.2 ft hin.2 (part_beyond (t := .sum s a b) ft (List.mem_cons_of_mem _ List.mem_cons_self) nb)
    have := meas_pos a (hid := hid) ft
    have := meas_pos b (hid := hid) ft
    simp only [rbT, meas, Tm.size, Tm.depth]
    exact ⟨⟨ok.1, i1, j1⟩, ⟨i2, j2⟩, by omega, by omega⟩
  | cho a b c ia ib ic =>
    intro ts hid ok ft hin nb
    obtain ⟨i1, i2, i3, i4⟩ := ia (hid := hid) ok.1 ft hin.1 (part_beyond (t := .cho a b c) ft List.mem_cons_self nb)
    obtain ⟨j1, j2, j3, j4⟩ := ib (hid := hid) ok.2.1 ft hin.2.1 (part_beyond (t := .cho a b c) ft (List.mem_cons_of_mem _ List.mem_cons_self) nb)
    obtain ⟨k1, k2, k3, k4⟩ := ic (hid := hid) ok.2.2 ft hin.2.2 (part_beyond (t := .cho a b c) ft (List.mem_cons_of_mem _ (List.mem_cons_of_mem _ List.mem_cons_self)) nb)
    have := meas_pos a (hid := hid) ft
    have := meas_pos b (hid := hid) ft
    have := meas_pos c (hid := hid) ft
    simp only [rbT, meas, Tm.size, Tm.depth]
    exact ⟨⟨i1, j1, k1⟩, ⟨i2, j2, k2⟩, by omega, by omega⟩
theorem r_read_back (t : Tm) : ∀ {D : Nat} {h : Hb} {ts : Ties} {hid : List Str}, t.Ok → (∀ q ∈ ts, FOk q.2) → t.In (hid ++ ts.map fun q => q.1) → ¬ Beyond (meas t ts hid) → hid.length + t.depth ≤ 1000 → t.depth + 5 ≤ D →
    RUN D 75 [t.v, tiesV ts, .tup (hid.map .str)] h = .ok (rbT t ts hid).v h := by
  refine parts_ind (P := fun t => ∀ {D : Nat} {h : Hb} {ts : Ties} {hid : List Str}, t.Ok → (∀ q ∈ ts, FOk q.2) → t.In (hid ++ ts.map fun q => q.1) → ¬ Beyond (meas t ts hid) → hid.length + t.depth ≤ 1000 → t.depth + 5 ≤ D → RUN D 75 [t.v, tiesV ts, .tup (hid.map .str)] h = .ok (rbT t ts hid).v h) (fun t ih => ?_) t
  intro D h ts hid ok ft hin nb hl hD
  obtain ⟨D, rfl, h1⟩ := suc hD
  by_cases hn : ∃ x, t = .name x
  · obtain ⟨x, rfl⟩ := hn
    have e1 := fun h => in_hid (h := h) x hid
    by_cases q : x ∈ hid
    · simp [R_read_back, b_read_back, Tm.v, e1, q, rbT]
    · rcases List.mem_append.mp (show x ∈ hid ++ ts.map fun q => q.1 from hin) with e | e
      · exact absurd e q
      · obtain ⟨l, z⟩ := tget_in e
        rw [meas, if_neg q, z] at nb
        obtain ⟨u, u1, _⟩ := (ft _ (tget_mem z)).fu nb
        obtain ⟨a, b, e⟩ := (ft _ (tget_mem z)).sh
        dsimp only at e u1
        have f1 : ∀ h, fldV tab h l 17 = some (lFull l) := fun h => by rw [e]; rfl
        simp [R_read_back, b_read_back, Tm.v, e1, q, rbT, tiesV, z, f1, u1, tmOf_v]
  · have hn2 : ∀ x, t ≠ .name x := fun x e => hn ⟨x, e⟩
    have hi : isOne tab h t.v (.cls 16) = some false := by
      cases t with
      | name x => exact absurd rfl (hn2 x)
      | _ => rfl
    have d1 : 1 ≤ t.depth := by cases t <;> simp [Tm.depth]
    obtain ⟨fb, b1, b2⟩ := says_binds (D := D) (h := h) t (by omega)
    obtain ⟨fp, p1, p2⟩ := says_parts (D := D) (h := h) t (by omega)
    obtain ⟨fr, r1, r2⟩ := says_rebuilt (D := D) (h := h) t (t.parts.map fun p => rbT p ts (hidB hid t.binds)) ok (List.length_map _) (by omega)
    rw [← rbT_eq t ts hid hn2] at r2
    have key : ∀ (hd : List Str) (a b c d e : Sl), (∀ p ∈ t.parts, RUN D 75 [p.v, tiesV ts, .tup (hd.map .str)] h = .ok (rbT p ts hd).v h) →
        cmpN (turnR (EV D) (E.call 75 (Es.cons (E.var 4) (Es.cons (E.var 1) (Es.cons (E.var 2) Es.nil)))) (Tg.n 4) Ts.nil) (t.parts.map Tm.v) h [a, .val (tiesV ts), .val (.tup (hd.map .str)), d, .un] [] = .ok (t.parts.map fun p => (rbT p ts hd).v) h := by
      intro hd a b c d e hp
      refine (cmpN_map (f := fun p => (rbT p ts hd).v) (fun p hpp => ?_) ?_).trans (by rw [List.nil_append])
      · have := hp p hpp
        simp [this]
      · have := parts_len t
        exact le_sz (by rw [List.length_nil]; omega)
    cases hb : t.binds with
    | none =>
      rw [hb] at b2 r2
      have ihp : ∀ p ∈ t.parts, RUN D 75 [p.v, tiesV ts, .tup (hid.map .str)] h = .ok (rbT p ts hid).v h := fun p hp => by
        have := parts_depth hp
        have nbp := part_beyond ft hp nb
        have inp := parts_in hp hin
        rw [hb] at nbp inp
        exact ih p hp (parts_ok hp ok) ft inp nbp (by omega) (by omega)
      have e := key hid (.val t.v) .un .un .un .un ihp
      rw [List.map_map] at r2
      have r3 : ∀ fs : FS, fs.hp = h → pcall (EV D) fr [t.v, .lst (t.parts.map fun p => (rbT p ts hid).v)] fs = .ok (rbT t ts hid).v fs := r2
      simp [R_read_back, b_read_back, hi, b1, b2, bv, isNon, p1, p2, blk, wip, blind, e, r1, r3]
    | some x =>
      rw [hb] at b2 r2
      have ihp : ∀ p ∈ t.parts, RUN D 75 [p.v, tiesV ts, .tup ((hid ++ [x]).map .str)] h = .ok (rbT p ts (hid ++ [x])).v h := fun p hp => by
        have := parts_depth hp
        have nbp := part_beyond ft hp nb
        have inp := parts_in hp hin
        rw [hb] at nbp inp
        exact ih p hp (parts_ok hp ok) ft (inp.mono fun y hy => by
          simp only [bcons, List.mem_cons, List.mem_append, List.mem_singleton] at hy ⊢
          rcases hy with e | e | e <;> simp [e]) nbp (by simp only [List.length_append, List.length_cons, List.length_nil]; omega) (by omega)
      have e := key (hid ++ [x]) (.val t.v) .un .un .un .un ihp
      rw [List.map_map] at r2
      have r3 : ∀ fs : FS, fs.hp = h → pcall (EV D) fr [t.v, .lst (t.parts.map fun p => (rbT p ts (hid ++ [x])).v)] fs = .ok (rbT t ts hid).v fs := r2
      have ea : evBin .add (.tup (hid.map .str)) (.tup [.str x]) = some (.tup ((hid ++ [x]).map .str)) := by
        rw [bin_add_tt (le_sz (by simp only [List.length_map, List.length_cons, List.length_nil]; omega)), List.map_append]
        rfl
      simp only [List.map_append, List.map_cons, List.map_nil] at e ea
      simp [R_read_back, b_read_back, hi, b1, b2, bv, isNon, p1, p2, blk, wip, blind, ea, e, r1, r3]
theorem r_is_beyond {r : Int × Int} (hD : 1 ≤ D) : RUN D 73 [.int r.1, .int r.2] h = .ok (.bl (decide (Beyond r))) h := by
  obtain ⟨D, rfl, h1⟩ := suc hD
  unfold Beyond
  by_cases q : 600 < r.1
  · have : r.1 > 600 ∨ r.2 > 60 := .inl q
    simp [R_is_beyond, b_is_beyond, g_3, g_4, q, this]
  · by_cases q2 : 60 < r.2
    · have : r.1 > 600 ∨ r.2 > 60 := .inr q2
      simp [R_is_beyond, b_is_beyond, g_3, g_4, q, q2, this]
    · have : ¬ (r.1 > 600 ∨ r.2 > 60) := by omega
      simp [R_is_beyond, b_is_beyond, g_3, g_4, q, q2, this]
inductive LOk : PV → Prop
  | mk (t : Tm) (ts : Ties) : t.Ok → t.In (ts.map fun q => q.1) → t.depth ≤ 60 → ts.length + t.depth ≤ 100 → (∀ q ∈ ts, LOk q.2) → LOk (lateV t ts)
theorem lFull_late (t : Tm) (ts : Ties) : lFull (lateV t ts) = fullV t ts := rfl
theorem lMany_late (t : Tm) (ts : Ties) : lMany (lateV t ts) = (meas t ts []).1 := rfl
theorem lDeep_late (t : Tm) (ts : Ties) : lDeep (lateV t ts) = (meas t ts []).2 := rfl
theorem fok_late {t : Tm} {ts : Ties} (ok : t.Ok) (hin : t.In (ts.map fun q => q.1)) (ft : ∀ q ∈ ts, FOk q.2) : FOk (lateV t ts) where
  sh := ⟨_, _, rfl⟩
  m1 := (meas_pos t ft).1
  d1 := (meas_pos t ft).2
  fu := fun nb => by
    have nb : ¬ Beyond (meas t ts []) := nb
    obtain ⟨q1, q2, q3, q4⟩ := rb_ok t ok ft (by simpa using hin) nb
    exact ⟨rbT t ts [], by rw [lFull_late, fullV, if_neg nb], q1, q2, q3, q4⟩
theorem LOk.fok {l : PV} (h : LOk l) : FOk l := by
  induction h with
  | mk t ts ok hin hd _ _ ih => exact fok_late ok hin ih
theorem m_late {t : Tm} {ts : Ties} (ok : t.Ok) (hin : t.In (ts.map fun q => q.1)) (ft : ∀ q ∈ ts, FOk q.2) (hd : t.depth ≤ 60) (hD : t.depth + 7 ≤ D) (fs : FS) : mkF (EV D) 23 [t.v, tiesV ts] fs = .ok (lateV t ts) fs := by
  obtain ⟨D, rfl, h1⟩ := suc hD
  obtain ⟨D, rfl, h2⟩ := suc h1
  have e1 := fun h => r_measured t (D := D) (h := h) (hid := []) ok ft (by simp only [List.length_nil]; omega) (by omega)
  simp only [List.map_nil] at e1
  have e2 := fun h => r_is_beyond (D := D) (h := h) (r := meas t ts []) (by omega)
  by_cases q : Beyond (meas t ts [])
  · simp [R_Late_init, b_Late_init, e1, e2, q, c_Late, fPut, lateV, fullV]
  · have e3 := fun h => r_read_back t (D := D) (h := h) (ts := ts) (hid := []) ok ft (by simpa using hin) q (by simp only [List.length_nil]; omega) (by omega)
    simp only [List.map_nil] at e3
    simp [R_Late_init, b_Late_init, e1, e2, q, c_Late, fPut, lateV, fullV, e3]
end U
namespace U
open PySem L2
variable {D : Nat} {h : Hb}
def tput (ts : Ties) (x : Str) (l : PV) : Ties := if (ts.any fun q => decide (q.1 = x)) = true then ts.map fun q => if q.1 = x then (q.1, l) else q else ts ++ [(x, l)]
theorem kOf_eq {a b : Str} : (kOf a = Sum.inr b) = (a = b) := propext ⟨fun e => Sum.inr.inj e, fun e => by rw [e]; rfl⟩
@[simp] theorem dPut_ties (ts : Ties) (x : Str) (l : PV) : dPut (kvs ts) (.inr x) l = kvs (tput ts x l) := by
  unfold dPut tput
  have e1 : ((kvs ts).any fun kv => decide (kv.1 = Sum.inr x)) = ts.any fun q => decide (q.1 = x) := by
    unfold kvs
    rw [List.any_map]
    congr 1
    funext q
    show decide (kOf q.1 = Sum.inr x) = _
    simp only [kOf_eq]
  rw [e1]
  split
  · unfold kvs
    rw [List.map_map, List.map_map]
    congr 1
    funext q
    show (if kOf q.1 = Sum.inr x then (kOf q.1, l) else (kOf q.1, q.2)) = (kOf (if q.1 = x then (q.1, l) else q).1, (if q.1 = x then (q.1, l) else q).2)
    by_cases e : q.1 = x
    · rw [if_pos e, if_pos (by rw [kOf_eq]; exact e)]
    · rw [if_neg e, if_neg (by rw [kOf_eq]; exact e)]
  · unfold kvs
    rw [List.map_append]
    rfl
@[simp] theorem kvs_len (ts : Ties) : (kvs ts).length = ts.length := List.length_map _
theorem kvs_v (ts : Ties) : PV.dic ((kvs ts).map fun q => q.1) ((kvs ts).map fun q => q.2) = tiesV ts := by
  unfold kvs tiesV
  rw [List.map_map, List.map_map]
  rfl
theorem tput_len (ts : Ties) (x : Str) (l : PV) : (tput ts x l).length ≤ ts.length + 1 := by
  unfold tput
  split
  · rw [List.length_map]; omega
  · rw [List.length_append]; exact Nat.le_refl _
theorem tput_mem {ts : Ties} {x : Str} {l : PV} {P : PV → Prop} (h : ∀ q ∈ ts, P q.2) (hl : P l) : ∀ q ∈ tput ts x l, P q.2 := by
  intro q hq
  unfold tput at hq
  split at hq
  · obtain ⟨r, hr, rfl⟩ := List.mem_map.mp hq
    split
    · exact hl
    · exact h r hr
  · rcases List.mem_append.mp hq with e | e
    · exact h q e
    · rw [List.mem_singleton.mp e]; exact hl
theorem tput_in {ts : Ties} {x y : Str} {l : PV} (h : y ∈ x :: ts.map fun q => q.1) : y ∈ (tput ts x l).map fun q => q.1 := by
  unfold tput
  split
  · rename_i z
    have e : (ts.map fun q => if q.1 = x then (q.1, l) else q).map (fun q => q.1) = ts.map fun q => q.1 := by
      rw [List.map_map]
      congr 1
      funext q
      show (if q.1 = x then (q.1, l) else q).1 = q.1
      split <;> rfl
    rw [e]
    rcases List.mem_cons.mp h with e | e
    · obtain ⟨q, hq, z⟩ := List.any_eq_true.mp z
      rw [e, ← of_decide_eq_true z]
      exact List.mem_map_of_mem hq
    · exact e
  · rw [List.map_append, List.mem_append]
    rcases List.mem_cons.mp h with e | e
    · rw [e]; exact .inr (by simp)
    · exact .inl e
inductive W where
  | given (l : PV) | other (s : Str) (l : PV) | number (s : Str) (n : Int) | choice (a b : PV)
def W.v : W → PV
  | .given l => .ins 25 [l]
  | .other s l => .ins 26 [.str s, l]
  | .number s n => .ins 27 [.str s, .int n]
  | .choice a b => .ins 28 [a, b]
def W.Ok : W → Prop
  | .given l => LOk l
  | .other s l => OkS s ∧ LOk l
  | .number s n => OkS s
  | .choice a b => LOk a ∧ LOk b
def sumOf (s : Str) (i j : Int) : Int := if s = "+" then i + j else if s = "-" then i - j else if i < j then 1 else 0
theorem r_sum_of {s : Str} {i j : Int} (hs : OkS s) (hD : 1 ≤ D) : RUN D 62 [.str s, .int i, .int j] h = .ok (.int (sumOf s i j)) h := by
  obtain ⟨D, rfl, h1⟩ := suc hD
  rcases hs with e | e | e
  · subst e; simp [R_sum_of, b_sum_of, sumOf]
  · subst e; simp [R_sum_of, b_sum_of, sumOf]
  · subst e; simp [R_sum_of, b_sum_of, sumOf]
structure St where
  at_ : Tm
  ties : Ties
  pile : List W
def St.v (s : St) : PV := .ins 29 [s.at_.v, tiesV s.ties, .tup (s.pile.map W.v).reverse]
structure St.Ok (s : St) : Prop where
  ok : s.at_.Ok
  hin : s.at_.In (s.ties.map fun q => q.1)
  dp : s.at_.depth ≤ 60
  sz : s.ties.length + s.at_.depth ≤ 100
  ts : ∀ q ∈ s.ties, LOk q.2
  pl : ∀ w ∈ s.pile, w.Ok
def W.sort (w : W) (t : Tm) : Option Str := match w, t with
  | .given _, .mk _ _ => some "take"
  | .other _ _, .num _ => some "next"
  | .number _ _, .num _ => some "sum"
  | .choice _ _, .num _ => some "choose"
  | _, _ => none
def St.next (s : St) : Option Str := match s.at_, s.pile with
  | .name _, _ => some "look"
  | .again _ _, _ => some "turn"
  | .give _ _, _ => some "open"
  | .sum _ _ _, _ => some "open"
  | .cho _ _ _, _ => some "open"
  | _, [] => none
  | t, w :: _ => w.sort t
def lWhatV : PV → PV
  | .ins _ [w, _, _, _, _] => w
  | _ => .non
def lTiesV : PV → PV
  | .ins _ [_, t, _, _, _] => t
  | _ => .non
def tiesOf : PV → Ties
  | .dic ks vs => (zipD ks vs).filterMap fun q => match q.1 with
    | .inr z => some (z, q.2)
    | .inl _ => none
  | _ => []
theorem tiesOf_v (ts : Ties) : tiesOf (tiesV ts) = ts := by
  unfold tiesOf tiesV
  dsimp only
  rw [zip_ties]
  unfold kvs
  rw [List.filterMap_map]
  induction ts with
  | nil => rfl
  | cons q r ih => rw [List.filterMap_cons]; exact congrArg (q :: ·) ih
noncomputable def lWhat (l : PV) : Tm := tmOf (lWhatV l)
def lTies (l : PV) : Ties := tiesOf (lTiesV l)
theorem lWhat_late (t : Tm) (ts : Ties) : lWhat (lateV t ts) = t := tmOf_v t
theorem lTies_late (t : Tm) (ts : Ties) : lTies (lateV t ts) = ts := tiesOf_v ts
theorem LOk.eq {l : PV} (h : LOk l) : l = lateV (lWhat l) (lTies l) := by
  cases h
  rw [lWhat_late, lTies_late]
noncomputable def St.step (s : St) : St := match s.at_, s.pile with
  | .name x, p => match tget s.ties x with
    | some l => ⟨lWhat l, lTies l, p⟩
    | none => s
  | .again x b, p => ⟨b, tput s.ties x (lateV (.again x b) s.ties), p⟩
  | .give m g, p => ⟨m, s.ties, .given (lateV g s.ties) :: p⟩
  | .sum z a b, p => ⟨a, s.ties, .other z (lateV b s.ties) :: p⟩
  | .cho a b c, p => ⟨a, s.ties, .choice (lateV b s.ties) (lateV c s.ties) :: p⟩
  | .mk x b, .given l :: p => ⟨b, tput s.ties x l, p⟩
  | .num n, .other z l :: p => ⟨lWhat l, lTies l, .number z n :: p⟩
  | .num n, .number z m :: p => ⟨.num (sumOf z m n), [], p⟩
  | .num n, .choice a b :: p => ⟨lWhat (if n = 0 then a else b), lTies (if n = 0 then a else b), p⟩
  | _, _ => s
theorem tup_last (p : List W) (w : W) : atI ((p.map W.v).reverse ++ [w.v]) (-1) = some w.v := atI_last _ _
theorem says_sort (w : W) (t : Tm) (hD : 1 ≤ D) : Says D h w.v 12 [t.v] (bv (w.sort t)) := by
  obtain ⟨D, rfl, h1⟩ := suc hD
  cases w <;> (refine ⟨_, rfl, fun fs hf => ?_⟩) <;> cases t <;> simp [W.v, Tm.v, W.sort, bv, R_GivenWait_sort_for, b_GivenWait_sort_for, R_OtherWait_sort_for, b_OtherWait_sort_for, R_NumberWait_sort_for, b_NumberWait_sort_for, R_ChoiceWait_sort_for, b_ChoiceWait_sort_for]
theorem says_next (s : St) (hD : 2 ≤ D) : Says D h s.v 16 [] (bv s.next) := by
  obtain ⟨D, rfl, h1⟩ := suc hD
  obtain ⟨a, ts, p⟩ := s
  refine ⟨_, rfl, fun fs hf => ?_⟩
  cases a with
  | name x => simp [St.v, Tm.v, St.next, bv, R_State_next_sort, b_State_next_sort]
  | again x b => simp [St.v, Tm.v, St.next, bv, R_State_next_sort, b_State_next_sort]
  | give x b => simp [St.v, Tm.v, St.next, bv, R_State_next_sort, b_State_next_sort]
  | sum z x b => simp [St.v, Tm.v, St.next, bv, R_State_next_sort, b_State_next_sort]
  | cho z x b => simp [St.v, Tm.v, St.next, bv, R_State_next_sort, b_State_next_sort]
  | num n =>
    cases p with
    | nil => simp [St.v, Tm.v, St.next, bv, R_State_next_sort, b_State_next_sort]
    | cons w p =>
      obtain ⟨f, e1, e2⟩ := says_sort (D := D) (h := fs.hp) w (.num n) h1
      have e3 := tup_last p w
      simp only [Tm.v] at e2
      have hz : ¬ ((p.length : Int) + 1 = 0) := by omega
      simp [St.v, Tm.v, St.next, R_State_next_sort, b_State_next_sort, e3, e1, e2, hz]
  | mk x b =>
    cases p with
    | nil => simp [St.v, Tm.v, St.next, bv, R_State_next_sort, b_State_next_sort]
    | cons w p =>
      obtain ⟨f, e1, e2⟩ := says_sort (D := D) (h := fs.hp) w (.mk x b) h1
      have e3 := tup_last p w
      simp only [Tm.v] at e2
      have hz : ¬ ((p.length : Int) + 1 = 0) := by omega
      simp [St.v, Tm.v, St.next, R_State_next_sort, b_State_next_sort, e3, e1, e2, hz]
  | opn =>
    cases p with
    | nil => simp [St.v, Tm.v, St.next, bv, R_State_next_sort, b_State_next_sort]
    | cons w p =>
      obtain ⟨f, e1, e2⟩ := says_sort (D := D) (h := fs.hp) w .opn h1
      have e3 := tup_last p w
      simp only [Tm.v] at e2
      have hz : ¬ ((p.length : Int) + 1 = 0) := by omega
      simp [St.v, Tm.v, St.next, R_State_next_sort, b_State_next_sort, e3, e1, e2, hz]
theorem cut_last {α : Type} (xs : List α) (x : α) : cut (xs ++ [x]) none (some (-1)) = xs := by
  unfold cut
  have e1 : HT.sIx (xs ++ [x]).length 0 none = 0 := rfl
  have e2 : HT.sIx (xs ++ [x]).length (xs ++ [x]).length (some (-1)) = xs.length := by
    simp [HT.sIx]
    omega
  rw [e1, e2]
  simp
theorem m_state {a : Tm} {ts : Ties} {q : List PV} (hD : 2 ≤ D) (fs : FS) : mkF (EV D) 29 [a.v, tiesV ts, .tup q] fs = .ok (.ins 29 [a.v, tiesV ts, .tup q]) fs := by
  obtain ⟨D, rfl, h1⟩ := suc hD
  obtain ⟨D, rfl, h2⟩ := suc h1
  simp [R_State_init, b_State_init, c_State, fPut]
theorem late_dp {l : PV} (h : LOk l) : (lWhat l).Ok ∧ (lWhat l).In ((lTies l).map fun q => q.1) ∧ (lWhat l).depth ≤ 60 ∧ (lTies l).length + (lWhat l).depth ≤ 100 ∧ ∀ q ∈ lTies l, LOk q.2 := by
  cases h with
  | mk t ts a b c d e => rw [lWhat_late, lTies_late]; exact ⟨a, b, c, d, e⟩
theorem fld_what {l : PV} (hl : LOk l) : fldV tab h l 13 = some (lWhat l).v := by
  rw [hl.eq, lWhat_late]; rfl
theorem fld_ties {l : PV} (hl : LOk l) : fldV tab h l 14 = some (tiesV (lTies l)) := by
  rw [hl.eq, lTies_late]; rfl
theorem add_tup {q r : List PV} (hp : q.length ≤ 20000) (hr : r.length ≤ 10) : evBin .add (.tup q) (.tup r) = some (.tup (q ++ r)) := bin_add_tt (le_sz (by omega))
theorem m_given {l : PV} (hD : 2 ≤ D) (fs : FS) : mkF (EV D) 25 [l] fs = .ok (.ins 25 [l]) fs := by
  obtain ⟨D, rfl, h1⟩ := suc hD
  obtain ⟨D, rfl, h2⟩ := suc h1
  simp [R_GivenWait_init, b_GivenWait_init, c_GivenWait, fPut]
theorem m_other {z l : PV} (hD : 2 ≤ D) (fs : FS) : mkF (EV D) 26 [z, l] fs = .ok (.ins 26 [z, l]) fs := by
  obtain ⟨D, rfl, h1⟩ := suc hD
  obtain ⟨D, rfl, h2⟩ := suc h1
  simp [R_OtherWait_init, b_OtherWait_init, c_OtherWait, fPut]
theorem m_number {z l : PV} (hD : 2 ≤ D) (fs : FS) : mkF (EV D) 27 [z, l] fs = .ok (.ins 27 [z, l]) fs := by
  obtain ⟨D, rfl, h1⟩ := suc hD
  obtain ⟨D, rfl, h2⟩ := suc h1
  simp [R_NumberWait_init, b_NumberWait_init, c_NumberWait, fPut]
theorem m_choice {z l : PV} (hD : 2 ≤ D) (fs : FS) : mkF (EV D) 28 [z, l] fs = .ok (.ins 28 [z, l]) fs := by
  obtain ⟨D, rfl, h1⟩ := suc hD
  obtain ⟨D, rfl, h2⟩ := suc h1
  simp [R_ChoiceWait_init, b_ChoiceWait_init, c_ChoiceWait, fPut]
variable {s : St}
theorem r_opened (hs : s.Ok) (hp : s.pile.length ≤ 10000) (hn : s.next = some ("open" : Str)) (hD : s.at_.depth + 10 ≤ D) : RUN D 107 [s.v] h = .ok s.step.v h := by
  obtain ⟨D, rfl, h1⟩ := suc hD
  obtain ⟨a, ts, p⟩ := s
  obtain ⟨ok, hin, dp, sz, lt, pl⟩ := hs
  have ft : ∀ q ∈ ts, FOk q.2 := fun q hq => (lt q hq).fok
  dsimp only at *
  have hq : (p.map W.v).reverse.length ≤ 20000 := by rw [List.length_reverse, List.length_map]; omega
  cases a with
  | name x => simp [St.next] at hn
  | again x b => simp [St.next] at hn
  | num n => cases p with
    | nil => simp [St.next] at hn
    | cons w p => cases w <;> simp [St.next, W.sort] at hn
  | mk n b => cases p with
    | nil => simp [St.next] at hn
    | cons w p => cases w <;> simp [St.next, W.sort] at hn
  | opn => cases p with
    | nil => simp [St.next] at hn
    | cons w p => cases w <;> simp [St.next, W.sort] at hn
  | give m g =>
    simp only [Tm.depth] at *
    have e1 := fun fs => m_late (D := D) (t := g) (ts := ts) ok.2 hin.2 ft (by omega) (by omega) fs
    have e2 := fun l fs => m_given (D := D) (l := l) (by omega) fs
    have e3 := fun q fs => m_state (D := D) (a := m) (ts := ts) (q := q) (by omega) fs
    have e4 := fun w => add_tup (r := [w]) hq (by simp)
    simp [St.v, Tm.v, R_opened, b_opened, e1, e2, e3, e4, St.step, W.v]
  | sum z m g =>
    simp only [Tm.depth] at *
    have e1 := fun fs => m_late (D := D) (t := g) (ts := ts) ok.2.2 hin.2 ft (by omega) (by omega) fs
    have e2 := fun z l fs => m_other (D := D) (z := z) (l := l) (by omega) fs
    have e3 := fun q fs => m_state (D := D) (a := m) (ts := ts) (q := q) (by omega) fs
    have e4 := fun w => add_tup (r := [w]) hq (by simp)
    simp [St.v, Tm.v, R_opened, b_opened, e1, e2, e3, e4, St.step, W.v]
  | cho m g k =>
    simp only [Tm.depth] at *
    have e1 := fun fs => m_late (D := D) (t := g) (ts := ts) ok.2.1 hin.2.1 ft (by omega) (by omega) fs
    have e1' := fun fs => m_late (D := D) (t := k) (ts := ts) ok.2.2 hin.2.2 ft (by omega) (by omega) fs
    have e2 := fun z l fs => m_choice (D := D) (z := z) (l := l) (by omega) fs
    have e3 := fun q fs => m_state (D := D) (a := m) (ts := ts) (q := q) (by omega) fs
    have e4 := fun w => add_tup (r := [w]) hq (by simp)
    simp [St.v, Tm.v, R_opened, b_opened, e1, e1', e2, e3, e4, St.step, W.v]
theorem r_looked (hs : s.Ok) (hn : s.next = some ("look" : Str)) (hD : 4 ≤ D) : RUN D 108 [s.v] h = .ok s.step.v h := by
  obtain ⟨D, rfl, h1⟩ := suc hD
  obtain ⟨a, ts, p⟩ := s
  obtain ⟨ok, hin, dp, sz, lt, pl⟩ := hs
  dsimp only at *
  cases a with
  | name x =>
    obtain ⟨l, z⟩ := tget_in hin
    have hl : LOk l := lt _ (tget_mem z)
    have e1 := fun h => fld_what (h := h) hl
    have e2 := fun h => fld_ties (h := h) hl
    have e3 := fun q fs => m_state (D := D) (a := lWhat l) (ts := lTies l) (q := q) (by omega) fs
    have e4 : ∀ h, evIx h (tiesV ts) (.str x) = some l := fun h => by
      show dGet (zipD _ _) (.inr x) = _
      rw [zip_ties, dGet_ties, z]
    simp [St.v, Tm.v, R_looked, b_looked, e1, e2, e3, e4, z, St.step]
  | again x b => simp [St.next] at hn
  | give x b => simp [St.next] at hn
  | sum z x b => simp [St.next] at hn
  | cho z x b => simp [St.next] at hn
  | num n => cases p with
    | nil => simp [St.next] at hn
    | cons w p => cases w <;> simp [St.next, W.sort] at hn
  | mk n b => cases p with
    | nil => simp [St.next] at hn
    | cons w p => cases w <;> simp [St.next, W.sort] at hn
  | opn => cases p with
    | nil => simp [St.next] at hn
    | cons w p => cases w <;> simp [St.next, W.sort] at hn
theorem asD_ties (ts : Ties) : asD h (tiesV ts) = some (kvs ts) := by
  show some (zipD _ _) = _
  rw [zip_ties]
theorem r_turned (hs : s.Ok) (hn : s.next = some ("turn" : Str)) (hD : s.at_.depth + 10 ≤ D) : RUN D 109 [s.v] h = .ok s.step.v h := by
  obtain ⟨D, rfl, h1⟩ := suc hD
  obtain ⟨a, ts, p⟩ := s
  obtain ⟨ok, hin, dp, sz, lt, pl⟩ := hs
  have ft : ∀ q ∈ ts, FOk q.2 := fun q hq => (lt q hq).fok
  dsimp only at *
  cases a with
  | again x b =>
    have e1 := fun fs => m_late (D := D) (t := .again x b) (ts := ts) ok hin ft (by omega) (by omega) fs
    have e3 := fun ts q fs => m_state (D := D) (a := b) (ts := ts) (q := q) (by omega) fs
    have e5 := fun h => asD_ties (h := h) ts
    have e6 : ts.length < 10000 := by omega
    simp only [Tm.v] at e1
    simp [St.v, Tm.v, R_turned, b_turned, e1, e3, e5, e6, St.step, putJ, slOwn, kvs_v]
  | name x => simp [St.next] at hn
  | give x b => simp [St.next] at hn
  | sum z x b => simp [St.next] at hn
  | cho z x b => simp [St.next] at hn
  | num n => cases p with
    | nil => simp [St.next] at hn
    | cons w p => cases w <;> simp [St.next, W.sort] at hn
  | mk n b => cases p with
    | nil => simp [St.next] at hn
    | cons w p => cases w <;> simp [St.next, W.sort] at hn
  | opn => cases p with
    | nil => simp [St.next] at hn
    | cons w p => cases w <;> simp [St.next, W.sort] at hn
end U
namespace U
open PySem L2
variable {D : Nat} {h : Hb} {s : St}
/-- behind a wait -/
noncomputable def W.after (w : W) (t : Tm) (ts : Ties) : Tm × Ties × List W := match w, t with
  | .given l, .mk x b => (b, tput ts x l, [])
  | .other z l, .num n => (lWhat l, lTies l, [.number z n])
  | .number z m, .num n => (.num (sumOf z m n), [], [])
  | .choice a b, .num n => (lWhat (if n = 0 then a else b), lTies (if n = 0 then a else b), [])
  | _, _ => (t, ts, [])
theorem tiesV_nil : tiesV [] = .dic [] [] := rfl
theorem says_after {w : W} {t : Tm} {ts : Ties} (hw : w.Ok) (hl : ts.length ≤ 1000) (hx : (w.sort t).isSome = true) (hD : 5 ≤ D) : Says D h w.v 13 [t.v, tiesV ts] (.tup [(w.after t ts).1.v, tiesV (w.after t ts).2.1, .tup ((w.after t ts).2.2.map W.v)]) := by
  obtain ⟨D, rfl, h1⟩ := suc hD
  have hl2 : ts.length < 10000 := by omega
  have e5 := fun h => asD_ties (h := h) ts
  cases w with
  | given l => cases t with
    | mk x b => exact ⟨_, rfl, fun fs hf => by simp [W.v, Tm.v, W.after, R_GivenWait_after, b_GivenWait_after, e5, hl2, putJ, slOwn, kvs_v]⟩
    | _ => cases hx
  | other z l => cases t with
    | num n =>
      have f1 := fun h => fld_what (h := h) hw.2
      have f2 := fun h => fld_ties (h := h) hw.2
      have f3 := fun z l fs => m_number (D := D) (z := z) (l := l) (by omega) fs
      exact ⟨_, rfl, fun fs hf => by simp [W.v, Tm.v, W.after, R_OtherWait_after, b_OtherWait_after, f1, f2, f3]⟩
    | _ => cases hx
  | number z m => cases t with
    | num n =>
      have f1 := fun h => r_sum_of (h := h) (D := D) (s := z) (i := m) (j := n) hw (by omega)
      have f2 := fun i fs => m_num (D := D) (i := i) (by omega) fs
      simp only [Tm.v] at f2
      exact ⟨_, rfl, fun fs hf => by simp [W.v, Tm.v, W.after, R_NumberWait_after, b_NumberWait_after, f1, f2, tiesV_nil]⟩
    | _ => cases hx
  | choice a b => cases t with
    | num n =>
      have hl : LOk (if n = 0 then a else b) := by split; exact hw.1; exact hw.2
      by_cases q : n = 0
      · rw [if_pos q] at hl
        have f1 := fun h => fld_what (h := h) hl
        have f2 := fun h => fld_ties (h := h) hl
        exact ⟨_, rfl, fun fs hf => by simp [W.v, Tm.v, W.after, R_ChoiceWait_after, b_ChoiceWait_after, f1, f2, q]⟩
      · rw [if_neg q] at hl
        have f1 := fun h => fld_what (h := h) hl
        have f2 := fun h => fld_ties (h := h) hl
        exact ⟨_, rfl, fun fs hf => by simp [W.v, Tm.v, W.after, R_ChoiceWait_after, b_ChoiceWait_after, f1, f2, q]⟩
    | _ => cases hx
theorem r_went_on {a : Tm} {ts : Ties} {w : W} {p : List W} (hw : w.Ok) (hl : ts.length ≤ 1000) (hx : (w.sort a).isSome = true) (hp : p.length ≤ 10000) (hD : 6 ≤ D) :
    RUN D 110 [(St.mk a ts (w :: p)).v] h = .ok (St.mk (w.after a ts).1 (w.after a ts).2.1 ((w.after a ts).2.2 ++ p)).v h := by
  obtain ⟨D, rfl, h1⟩ := suc hD
  obtain ⟨f, e1, e2⟩ := says_after (D := D) (h := h) hw hl hx (by omega)
  have e3 := tup_last p w
  have e4 := fun q fs => m_state (D := D) (a := (w.after a ts).1) (ts := (w.after a ts).2.1) (q := q) (by omega) fs
  have hq : (p.map W.v).reverse.length ≤ 20000 := by rw [List.length_reverse, List.length_map]; omega
  have hr : ((w.after a ts).2.2.map W.v).length ≤ 1 := by
    rw [List.length_map]
    unfold W.after
    split <;> simp
  have e5 := add_tup (q := (p.map W.v).reverse) (r := (w.after a ts).2.2.map W.v) hq (by omega)
  have e6 : evSl (.tup ((p.map W.v).reverse ++ [w.v])) none (some (-1)) = some (.tup (p.map W.v).reverse) := by
    show some (PV.tup (cut _ none (some (-1)))) = _
    rw [cut_last]
  have e7 : ((w.after a ts).2.2.map W.v).reverse = (w.after a ts).2.2.map W.v := by
    unfold W.after
    split <;> simp
  simp [St.v, R_went_on, b_went_on, e1, e2, e3, e4, e5, e6, e7]
/-- a step of the machine -/
theorem step_eq {a : Tm} {ts : Ties} {w : W} {p : List W} (hx : (w.sort a).isSome = true) : (St.mk a ts (w :: p)).step = St.mk (w.after a ts).1 (w.after a ts).2.1 ((w.after a ts).2.2 ++ p) := by
  cases w <;> cases a <;> first | rfl | cases hx
theorem says_step (hs : s.Ok) (hp : s.pile.length ≤ 10000) {z : Str} (hn : s.next = some z) (hD : s.at_.depth + 12 ≤ D) : Says D h s.v 18 [] s.step.v := by
  obtain ⟨D, rfl, h1⟩ := suc hD
  refine ⟨103, rfl, fun fs hf => ?_⟩
  obtain ⟨f, e1, e2⟩ := says_next (D := D) (h := fs.hp) s (by omega)
  rw [hn] at e2
  have hsrt : (z = "open" ∨ z = "look" ∨ z = "turn") ∨ ∃ w p, s.pile = w :: p ∧ w.sort s.at_ = some z := by
    obtain ⟨a, ts, p⟩ := s
    cases a with
    | name x => simp [St.next] at hn; exact .inl (.inr (.inl hn.symm))
    | again x b => simp [St.next] at hn; exact .inl (.inr (.inr hn.symm))
    | give x b => simp [St.next] at hn; exact .inl (.inl hn.symm)
    | sum z x b => simp [St.next] at hn; exact .inl (.inl hn.symm)
    | cho z x b => simp [St.next] at hn; exact .inl (.inl hn.symm)
    | num n => cases p with
      | nil => simp [St.next] at hn
      | cons w p => exact .inr ⟨w, p, rfl, by simpa [St.next] using hn⟩
    | mk n b => cases p with
      | nil => simp [St.next] at hn
      | cons w p => exact .inr ⟨w, p, rfl, by simpa [St.next] using hn⟩
    | opn => cases p with
      | nil => simp [St.next] at hn
      | cons w p => exact .inr ⟨w, p, rfl, by simpa [St.next] using hn⟩
  rcases hsrt with (e | e | e) | ⟨w, p, ep, es⟩
  · subst e
    have k := r_opened (h := fs.hp) (D := D) hs hp hn (by omega)
    simp [R_State_step, b_State_step, e1, e2, bv, isNon, g_101, zipD, dGet, k]
  · subst e
    have k := r_looked (h := fs.hp) (D := D) hs hn (by omega)
    simp [R_State_step, b_State_step, e1, e2, bv, isNon, g_101, zipD, dGet, k]
  · subst e
    have k := r_turned (h := fs.hp) (D := D) hs hn (by omega)
    simp [R_State_step, b_State_step, e1, e2, bv, isNon, g_101, zipD, dGet, k]
  · have hx : (w.sort s.at_).isSome = true := by rw [es]; rfl
    obtain ⟨a, ts, p'⟩ := s
    dsimp only at ep es hx
    subst ep
    have sz := hs.sz
    have hw : w.Ok := hs.pl w List.mem_cons_self
    dsimp only at sz
    have k := r_went_on (h := fs.hp) (D := D) (a := a) (ts := ts) (w := w) (p := p) hw (by omega) hx (by simp only [List.length_cons] at hp; omega) (by omega)
    rw [step_eq hx]
    have hz : z = "take" ∨ z = "next" ∨ z = "sum" ∨ z = "choose" := by
      cases w <;> cases a <;> simp [W.sort] at es <;> (subst es; simp)
    rcases hz with e | e | e | e <;> (subst e; simp [R_State_step, b_State_step, e1, e2, bv, isNon, g_101, zipD, dGet, k])
theorem sumOk {z : Str} {i j : Int} : (Tm.num (sumOf z i j)).Ok := trivial
theorem St.Ok.step (hs : s.Ok) {z : Str} (hn : s.next = some z) : s.step.Ok := by
  obtain ⟨a, ts, p⟩ := s
  obtain ⟨ok, hin, dp, sz, lt, pl⟩ := hs
  have fromLate : ∀ {l : PV} {q : List W}, LOk l → (∀ w ∈ q, w.Ok) → (St.mk (lWhat l) (lTies l) q).Ok := fun hl hq => by
    obtain ⟨a, b, c, d, e⟩ := late_dp hl
    exact ⟨a, b, c, d, e, hq⟩
  dsimp only at *
  cases a with
  | name x =>
    obtain ⟨l, z⟩ := tget_in hin
    have hl : LOk l := lt _ (tget_mem z)
    simp only [St.step, z]
    exact fromLate hl pl
  | again x b =>
    simp only [St.step, Tm.depth] at *
    have hL : LOk (lateV (.again x b) ts) := .mk _ _ ok hin dp sz lt
    have := tput_len ts x (lateV (.again x b) ts)
    exact ⟨ok.2, Tm.In.mono hin fun y hy => tput_in hy, (show b.depth ≤ 60 by omega), (show _ + b.depth ≤ 100 by dsimp only; omega), tput_mem lt hL, pl⟩
  | give m g =>
    simp only [St.step, Tm.depth] at *
    refine ⟨ok.1, hin.1, (show m.depth ≤ 60 by omega), (show _ + m.depth ≤ 100 by dsimp only; omega), lt, fun w hw => ?_⟩
    rcases List.mem_cons.mp hw with e | e
    · rw [e]; exact LOk.mk _ _ ok.2 hin.2 (by omega) (by omega) lt
    · exact pl w e
  | sum z m g =>
    simp only [St.step, Tm.depth] at *
    refine ⟨ok.2.1, hin.1, (show m.depth ≤ 60 by omega), (show _ + m.depth ≤ 100 by dsimp only; omega), lt, fun w hw => ?_⟩
    rcases List.mem_cons.mp hw with e | e
    · rw [e]; exact ⟨ok.1, LOk.mk _ _ ok.2.2 hin.2 (by omega) (by omega) lt⟩
    · exact pl w e
  | cho m g k =>
    simp only [St.step, Tm.depth] at *
    refine ⟨ok.1, hin.1, (show m.depth ≤ 60 by omega), (show _ + m.depth ≤ 100 by dsimp only; omega), lt, fun w hw => ?_⟩
    rcases List.mem_cons.mp hw with e | e
    · rw [e]; exact ⟨LOk.mk _ _ ok.2.1 hin.2.1 (by omega) (by omega) lt, LOk.mk _ _ ok.2.2 hin.2.2 (by omega) (by omega) lt⟩
    · exact pl w e
  | opn => cases p with
    | nil => simp [St.next] at hn
    | cons w p => cases w <;> simp [St.next, W.sort] at hn
  | num n => cases p with
    | nil => simp [St.next] at hn
    | cons w p =>
      have hw := pl w List.mem_cons_self
      have hp : ∀ w ∈ p, w.Ok := fun w hw => pl w (List.mem_cons_of_mem _ hw)
      cases w with
      | given l => simp [St.next, W.sort] at hn
      | other z l =>
        simp only [St.step]
        refine fromLate hw.2 fun w hw' => ?_
        rcases List.mem_cons.mp hw' with e | e
        · rw [e]; exact hw.1
        · exact hp w e
      | number z m =>
        simp only [St.step]
        exact ⟨trivial, trivial, (by simp [Tm.depth]), (by simp [Tm.depth]), (fun q hq => nomatch hq), hp⟩
      | choice a b =>
        simp only [St.step]
        refine fromLate ?_ hp
        split
        · exact hw.1
        · exact hw.2
  | mk x b => cases p with
    | nil => simp [St.next] at hn
    | cons w p =>
      have hw := pl w List.mem_cons_self
      have hp : ∀ w ∈ p, w.Ok := fun w hw => pl w (List.mem_cons_of_mem _ hw)
      cases w with
      | given l =>
        simp only [St.step, Tm.depth] at *
        have := tput_len ts x l
        exact ⟨ok.2, Tm.In.mono hin fun y hy => tput_in hy, (show b.depth ≤ 60 by omega), (show _ + b.depth ≤ 100 by dsimp only; omega), tput_mem lt hw, hp⟩
      | _ => simp [St.next, W.sort] at hn
theorem step_pile (s : St) : s.step.pile.length ≤ s.pile.length + 1 := by
  obtain ⟨a, ts, p⟩ := s
  cases a with
  | name x =>
    show (match tget ts x with | some l => St.mk (lWhat l) (lTies l) p | none => St.mk (.name x) ts p).pile.length ≤ p.length + 1
    cases tget ts x <;> (dsimp only; omega)
  | _ => rcases p with _ | ⟨w, p⟩ <;> (try cases w) <;> simp [St.step] <;> (try omega)
end U
namespace U
open PySem L2
variable {D : Nat} {h : Hb} {s : St}
def St.how (s : St) : Str := match s.next with
  | some _ => "goes"
  | none => match s.pile, s.at_ with
    | [], .num _ => "number"
    | [], .mk _ _ => "maker"
    | _, _ => "stuck"
def St.came (s : St) : PV := match s.next, s.pile, s.at_ with
  | none, [], .num n => .int n
  | _, _, _ => .non
theorem says_how (s : St) (hD : 3 ≤ D) : Says D h s.v 17 [] (.str s.how) := by
  obtain ⟨D, rfl, h1⟩ := suc hD
  refine ⟨102, rfl, fun fs hf => ?_⟩
  obtain ⟨f, e1, e2⟩ := says_next (D := D) (h := fs.hp) s (by omega)
  cases hn : s.next with
  | some z =>
    rw [hn] at e2
    simp [R_State_how, b_State_how, e1, e2, bv, isNon, St.how, hn]
  | none =>
    rw [hn] at e2
    obtain ⟨a, ts, p⟩ := s
    simp only [St.v, List.map_nil, List.reverse_nil] at e1 e2
    cases p with
    | nil => cases a <;> simp [St.next] at hn <;> simp [Tm.v] at e1 e2 <;> simp [R_State_how, b_State_how, e1, e2, bv, isNon, St.how, hn, St.v, Tm.v, St.next]
    | cons w p =>
      have hz : ¬ ((p.length : Int) + 1 = 0) := by omega
      simp only [List.map_cons, List.reverse_cons] at e1 e2
      simp [R_State_how, b_State_how, e1, e2, bv, isNon, St.how, hn, St.v, hz]
theorem how_strOk (s : St) : PyData.strOk s.how = true := by
  unfold St.how
  split
  · exact strOk_lit _
  · split <;> exact strOk_lit _
theorem says_came (s : St) (hD : 4 ≤ D) : Says D h s.v 19 [] s.came := by
  obtain ⟨D, rfl, h1⟩ := suc hD
  refine ⟨104, rfl, fun fs hf => ?_⟩
  obtain ⟨f, e1, e2⟩ := says_how (D := D) (h := fs.hp) s (by omega)
  have ho := how_strOk s
  by_cases q : s.how = "number"
  · have hc : ∃ n, s.at_ = .num n ∧ s.came = .int n := by
      obtain ⟨a, ts, p⟩ := s
      unfold St.how at q
      unfold St.came
      cases hn : (St.mk a ts p).next with
      | some z => rw [hn] at q; simp at q
      | none =>
        rw [hn] at q
        cases p with
        | nil => cases a <;> simp at q; exact ⟨_, rfl, rfl⟩
        | cons w p => simp at q
    obtain ⟨n, c1, c2⟩ := hc
    obtain ⟨a, ts, p⟩ := s
    dsimp only at c1
    subst c1
    rw [q] at e2
    simp only [St.v, Tm.v] at e1 e2
    simp [R_State_came, b_State_came, e1, e2, q, c2, St.v, Tm.v]
  · have hc : s.came = .non := by
      obtain ⟨a, ts, p⟩ := s
      unfold St.how at q
      unfold St.came
      cases hn : (St.mk a ts p).next with
      | some z => rfl
      | none =>
        rw [hn] at q
        cases p with
        | nil => cases a <;> simp at q <;> rfl
        | cons w p => rfl
    simp [R_State_came, b_State_came, e1, e2, q, hc, ho]
theorem says_height (s : St) (hD : 1 ≤ D) : Says D h s.v 20 [] (.int s.pile.length) := by
  obtain ⟨D, rfl, h1⟩ := suc hD
  exact ⟨105, rfl, fun fs hf => by simp [R_State_height, b_State_height, St.v]⟩
noncomputable def lF (l : PV) : Tm := tmOf (lFull l)
def W.grown (w : W) (r : Int × Int) : Int × Int := match w with
  | .given l => (r.1 + lMany l + 1, max r.2 (lDeep l) + 1)
  | .other _ l => (r.1 + lMany l + 1, max r.2 (lDeep l) + 1)
  | .number _ _ => (r.1 + 2, r.2 + 1)
  | .choice a b => (r.1 + lMany a + lMany b + 1, max (max r.2 (lDeep a)) (lDeep b) + 1)
noncomputable def W.around (w : W) (u : Tm) : Tm := match w with
  | .given l => .give u (lF l)
  | .other s l => .sum s u (lF l)
  | .number s n => .sum s (.num n) u
  | .choice a b => .cho u (lF a) (lF b)
def St.great (s : St) : Int × Int := s.pile.foldl (fun r w => w.grown r) (meas s.at_ s.ties [])
noncomputable def St.shown (s : St) : Tm := s.pile.foldl (fun u w => w.around u) (rbT s.at_ s.ties [])
theorem fld_many {l : PV} (hl : FOk l) : fldV tab h l 15 = some (.int (lMany l)) := by
  obtain ⟨a, b, e⟩ := hl.sh
  rw [e]; rfl
theorem fld_deep {l : PV} (hl : FOk l) : fldV tab h l 16 = some (.int (lDeep l)) := by
  obtain ⟨a, b, e⟩ := hl.sh
  rw [e]; rfl
theorem fld_full {l : PV} (hl : FOk l) : fldV tab h l 17 = some (lFull l) := by
  obtain ⟨a, b, e⟩ := hl.sh
  rw [e]; rfl
theorem lF_ok {l : PV} (hl : FOk l) (nb : ¬ Beyond (lMany l, lDeep l)) : lFull l = (lF l).v ∧ (lF l).Ok ∧ (lF l).In [] ∧ ((lF l).size : Int) = lMany l ∧ ((lF l).depth : Int) = lDeep l := by
  obtain ⟨u, u1, u2, u3, u4, u5⟩ := hl.fu nb
  have : lF l = u := by unfold lF; rw [u1, tmOf_v]
  rw [this]
  exact ⟨u1, u2, u3, u4, u5⟩
theorem says_grown {w : W} (hw : w.Ok) {r : Int × Int} (hD : 1 ≤ D) : Says D h w.v 14 [.int r.1, .int r.2] (.tup [.int (w.grown r).1, .int (w.grown r).2]) := by
  obtain ⟨D, rfl, h1⟩ := suc hD
  cases w with
  | given l =>
    have a1 := fun h => fld_many (h := h) (LOk.fok hw)
    have a2 := fun h => fld_deep (h := h) (LOk.fok hw)
    exact ⟨_, rfl, fun fs hf => by simp [W.v, R_GivenWait_grown, b_GivenWait_grown, a1, a2, W.grown]⟩
  | other z l =>
    have a1 := fun h => fld_many (h := h) (LOk.fok hw.2)
    have a2 := fun h => fld_deep (h := h) (LOk.fok hw.2)
    exact ⟨_, rfl, fun fs hf => by simp [W.v, R_OtherWait_grown, b_OtherWait_grown, a1, a2, W.grown]⟩
  | number z n => exact ⟨_, rfl, fun fs hf => by simp [W.v, R_NumberWait_grown, b_NumberWait_grown, W.grown]⟩
  | choice a b =>
    have a1 := fun h => fld_many (h := h) (LOk.fok hw.1)
    have a2 := fun h => fld_deep (h := h) (LOk.fok hw.1)
    have b1 := fun h => fld_many (h := h) (LOk.fok hw.2)
    have b2 := fun h => fld_deep (h := h) (LOk.fok hw.2)
    exact ⟨_, rfl, fun fs hf => by simp [W.v, R_ChoiceWait_grown, b_ChoiceWait_grown, a1, a2, b1, b2, W.grown]⟩
/-- none of the things that wait is beyond -/
def W.Small (w : W) : Prop := match w with
  | .given l => ¬ Beyond (lMany l, lDeep l)
  | .other _ l => ¬ Beyond (lMany l, lDeep l)
  | .number _ _ => True
  | .choice a b => ¬ Beyond (lMany a, lDeep a) ∧ ¬ Beyond (lMany b, lDeep b)
theorem says_around {w : W} (hw : w.Ok) (sm : w.Small) {u : Tm} (hD : 6 ≤ D) : Says D h w.v 15 [u.v] (w.around u).v := by
  obtain ⟨D, rfl, h1⟩ := suc hD
  cases w with
  | given l =>
    have f := fun h => fld_full (h := h) (LOk.fok hw)
    have e := fun fs => m_give (D := D) (a := u) (b := lF l) (by omega) fs
    rw [(lF_ok (LOk.fok hw) sm).1] at f
    exact ⟨_, rfl, fun fs hf => by simp [W.v, R_GivenWait_around, b_GivenWait_around, f, e, W.around]⟩
  | other z l =>
    have f := fun h => fld_full (h := h) (LOk.fok hw.2)
    have e := fun fs => m_sum (D := D) (s := z) (a := u) (b := lF l) (by omega) hw.1 fs
    rw [(lF_ok (LOk.fok hw.2) sm).1] at f
    exact ⟨_, rfl, fun fs hf => by simp [W.v, R_OtherWait_around, b_OtherWait_around, f, e, W.around]⟩
  | number z n =>
    have e1 := fun fs => m_num (D := D) (i := n) (by omega) fs
    have e := fun fs => m_sum (D := D) (s := z) (a := .num n) (b := u) (by omega) hw fs
    exact ⟨_, rfl, fun fs hf => by simp [W.v, R_NumberWait_around, b_NumberWait_around, e1, e, W.around]⟩
  | choice a b =>
    have f := fun h => fld_full (h := h) (LOk.fok hw.1)
    have f2 := fun h => fld_full (h := h) (LOk.fok hw.2)
    rw [(lF_ok (LOk.fok hw.1) sm.1).1] at f
    rw [(lF_ok (LOk.fok hw.2) sm.2).1] at f2
    have e := fun fs => m_cho (D := D) (a := u) (b := lF a) (c := lF b) (by omega) fs
    exact ⟨_, rfl, fun fs hf => by simp [W.v, R_ChoiceWait_around, b_ChoiceWait_around, f, f2, e, W.around]⟩
theorem grown_le {w : W} (hw : w.Ok) (r : Int × Int) : r.1 ≤ (w.grown r).1 ∧ r.2 ≤ (w.grown r).2 ∧ (¬ Beyond (w.grown r) → 0 ≤ r.1 → w.Small) := by
  cases w with
  | given l =>
    have := (LOk.fok hw).m1
    simp only [W.grown, W.Small, Beyond]
    refine ⟨by omega, by omega, fun a b => by omega⟩
  | other z l =>
    have := (LOk.fok hw.2).m1
    simp only [W.grown, W.Small, Beyond]
    refine ⟨by omega, by omega, fun a b => by omega⟩
  | number z n =>
    simp only [W.grown, W.Small]
    refine ⟨by omega, by omega, fun a b => trivial⟩
  | choice a b =>
    have := (LOk.fok hw.1).m1
    have := (LOk.fok hw.2).m1
    simp only [W.grown, W.Small, Beyond]
    refine ⟨by omega, by omega, fun a b => ⟨by omega, by omega⟩⟩
theorem fold_le : ∀ {p : List W} {r : Int × Int}, (∀ w ∈ p, w.Ok) → r.1 ≤ (p.foldl (fun r w => w.grown r) r).1 ∧ r.2 ≤ (p.foldl (fun r w => w.grown r) r).2
  | [], r, _ => ⟨Int.le_refl _, Int.le_refl _⟩
  | w :: p, r, hp => by
    have h1 := grown_le (hp w List.mem_cons_self) r
    have h2 := fold_le (p := p) (r := w.grown r) fun w hw => hp w (List.mem_cons_of_mem _ hw)
    rw [List.foldl_cons]
    exact ⟨Int.le_trans h1.1 h2.1, Int.le_trans h1.2.1 h2.2⟩
theorem fold_small : ∀ {p : List W} {r : Int × Int}, (∀ w ∈ p, w.Ok) → 0 ≤ r.1 → ¬ Beyond (p.foldl (fun r w => w.grown r) r) → ∀ w ∈ p, w.Small
  | w :: p, r, hp, h0, nb, v, hv => by
    have hp2 : ∀ w ∈ p, w.Ok := fun w hw => hp w (List.mem_cons_of_mem _ hw)
    have h1 := grown_le (hp w List.mem_cons_self) r
    have h2 := fold_le (p := p) (r := w.grown r) hp2
    rw [List.foldl_cons] at nb
    have nb1 : ¬ Beyond (w.grown r) := by unfold Beyond at nb ⊢; omega
    rcases List.mem_cons.mp hv with e | e
    · rw [e]; exact h1.2.2 nb1 h0
    · exact fold_small hp2 (by omega) nb v e
theorem around_ok {w : W} (hw : w.Ok) (sm : w.Small) {u : Tm} {r : Int × Int} (ok : u.Ok) (hin : u.In []) (hs : (u.size : Int) = r.1) (hd : (u.depth : Int) = r.2) : (w.around u).Ok ∧ (w.around u).In [] ∧ ((w.around u).size : Int) = (w.grown r).1 ∧ ((w.around u).depth : Int) = (w.grown r).2 := by
  cases w with
  | given l =>
    obtain ⟨_, a, b, c, d⟩ := lF_ok (LOk.fok hw) sm
    simp only [W.around, W.grown, Tm.size, Tm.depth]
    exact ⟨⟨ok, a⟩, ⟨hin, b⟩, by omega, by omega⟩
  | other z l =>
    obtain ⟨_, a, b, c, d⟩ := lF_ok (LOk.fok hw.2) sm
    simp only [W.around, W.grown, Tm.size, Tm.depth]
    exact ⟨⟨hw.1, ok, a⟩, ⟨hin, b⟩, by omega, by omega⟩
  | number z n =>
    have : 1 ≤ u.depth := by cases u <;> simp [Tm.depth]
    simp only [W.around, W.grown, Tm.size, Tm.depth]
    exact ⟨⟨hw, trivial, ok⟩, ⟨trivial, hin⟩, by omega, by omega⟩
  | choice a b =>
    obtain ⟨_, a1, b1, c1, d1⟩ := lF_ok (LOk.fok hw.1) sm.1
    obtain ⟨_, a2, b2, c2, d2⟩ := lF_ok (LOk.fok hw.2) sm.2
    simp only [W.around, W.grown, Tm.size, Tm.depth]
    exact ⟨⟨ok, a1, a2⟩, ⟨hin, b1, b2⟩, by omega, by omega⟩
theorem fold_around : ∀ {p : List W} {u : Tm} {r : Int × Int}, (∀ w ∈ p, w.Ok) → (∀ w ∈ p, w.Small) → u.Ok → u.In [] → (u.size : Int) = r.1 → (u.depth : Int) = r.2 →
    (p.foldl (fun u w => w.around u) u).Ok ∧ (p.foldl (fun u w => w.around u) u).In [] ∧ ((p.foldl (fun u w => w.around u) u).size : Int) = (p.foldl (fun r w => w.grown r) r).1 ∧ ((p.foldl (fun u w => w.around u) u).depth : Int) = (p.foldl (fun r w => w.grown r) r).2
  | [], u, r, _, _, a, b, c, d => ⟨a, b, c, d⟩
  | w :: p, u, r, hp, sm, a, b, c, d => by
    obtain ⟨a1, b1, c1, d1⟩ := around_ok (hp w List.mem_cons_self) (sm w List.mem_cons_self) a b c d
    exact fold_around (p := p) (fun w hw => hp w (List.mem_cons_of_mem _ hw)) (fun w hw => sm w (List.mem_cons_of_mem _ hw)) a1 b1 c1 d1
theorem shown_ok (hs : s.Ok) (nb : ¬ Beyond s.great) : s.shown.Ok ∧ s.shown.In [] ∧ (s.shown.size : Int) = s.great.1 ∧ (s.shown.depth : Int) = s.great.2 := by
  have ft : ∀ q ∈ s.ties, FOk q.2 := fun q hq => (hs.ts q hq).fok
  have mp := meas_pos s.at_ (hid := []) ft
  have fl := fold_le (r := meas s.at_ s.ties []) hs.pl
  have nb1 : ¬ Beyond (meas s.at_ s.ties []) := by unfold Beyond St.great at *; omega
  obtain ⟨a, b, c, d⟩ := rb_ok s.at_ hs.ok ft (by simpa using hs.hin) nb1
  exact fold_around hs.pl (fold_small hs.pl (by omega) nb) a b c d
/-- shown's answer -/
noncomputable def St.showR (s : St) (h : Hb) : R Hb PV := if Beyond s.great then .ex 5 [] h else .ok s.shown.v h
theorem r_shown (hs : s.Ok) (hD : s.at_.depth + 8 ≤ D) : RUN D 106 [s.v] h = s.showR h := by
  obtain ⟨D, rfl, h1⟩ := suc hD
  obtain ⟨a, ts, p⟩ := s
  have ft : ∀ q ∈ ts, FOk q.2 := fun q hq => (hs.ts q hq).fok
  have mp := meas_pos a (hid := []) ft
  have dp := hs.dp
  dsimp only at h1 dp
  have e1 := r_measured a (D := D) (h := h) (ts := ts) (hid := []) hs.ok ft (by simp only [List.length_nil]; omega) (by omega)
  have L1 : ∀ (p : List W) (r : Int × Int) (v0 s3 s4 : Sl), (∀ w ∈ p, w.Ok) → ∃ s3', forN (forB (EV D) (Tg.n 3) (Ss.cons (S.unp [1, 2] (E.meth (E.var 3) 14 (Es.cons (E.var 1) (Es.cons (E.var 2) Es.nil)))) Ss.nil)) (p.map W.v) ⟨[v0, .val (.int r.1), .val (.int r.2), s3, s4], h⟩ =
      .ok .nx ⟨[v0, .val (.int (p.foldl (fun r w => w.grown r) r).1), .val (.int (p.foldl (fun r w => w.grown r) r).2), s3', s4], h⟩ := by
    intro p
    induction p with
    | nil => intro r v0 s3 s4 _; exact ⟨s3, rfl⟩
    | cons w p ih =>
      intro r v0 s3 s4 hp
      obtain ⟨s3', e⟩ := ih (w.grown r) v0 (.val w.v) s4 fun w hw => hp w (List.mem_cons_of_mem _ hw)
      obtain ⟨f, g1, g2⟩ := says_grown (h := h) (hp w List.mem_cons_self) (r := r) (D := D) (by omega)
      refine ⟨s3', ?_⟩
      rw [List.map_cons, forN]
      simp [g1, g2, e]
  have L2 : ∀ (p : List W) (u : Tm) (v0 v1 v2 s3 : Sl), (∀ w ∈ p, w.Ok) → (∀ w ∈ p, w.Small) → ∃ s3', forN (forB (EV D) (Tg.n 3) (Ss.cons (S.set 4 (E.meth (E.var 3) 15 (Es.cons (E.var 4) Es.nil))) Ss.nil)) (p.map W.v) ⟨[v0, v1, v2, s3, .val u.v], h⟩ =
      .ok .nx ⟨[v0, v1, v2, s3', .val (p.foldl (fun u w => w.around u) u).v], h⟩ := by
    intro p
    induction p with
    | nil => intro u v0 v1 v2 s3 _ _; exact ⟨s3, rfl⟩
    | cons w p ih =>
      intro u v0 v1 v2 s3 hp sm
      obtain ⟨s3', e⟩ := ih (w.around u) v0 v1 v2 (.val w.v) (fun w hw => hp w (List.mem_cons_of_mem _ hw)) fun w hw => sm w (List.mem_cons_of_mem _ hw)
      obtain ⟨f, g1, g2⟩ := says_around (h := h) (hp w List.mem_cons_self) (sm w List.mem_cons_self) (u := u) (D := D) (by omega)
      refine ⟨s3', ?_⟩
      rw [List.map_cons, forN]
      simp [g1, g2, e]
  obtain ⟨s3, e2⟩ := L1 p (meas a ts []) (.val (St.mk a ts p).v) .un .un hs.pl
  have e3 := r_is_beyond (D := D) (h := h) (r := (St.mk a ts p).great) (by omega)
  simp only [List.map_nil] at e1
  unfold St.showR
  by_cases q : Beyond (St.mk a ts p).great
  · rw [if_pos q]
    simp only [St.great, St.v] at e2 e3
    have q2 : Beyond (p.foldl (fun r w => w.grown r) (meas a ts [])) := q
    simp [R_State_shown, b_State_shown, St.v, e1, e2, e3, q2, c_TooGreat]
  · rw [if_neg q]
    have q2 : ¬ Beyond (p.foldl (fun r w => w.grown r) (meas a ts [])) := q
    have fl := fold_le (r := meas a ts []) hs.pl
    have nb1 : ¬ Beyond (meas a ts []) := by unfold Beyond at *; dsimp only at fl; omega
    have e4 := r_read_back a (D := D) (h := h) (ts := ts) (hid := []) hs.ok ft (by simpa using hs.hin) nb1 (by simp only [List.length_nil]; omega) (by omega)
    obtain ⟨s3', e5⟩ := L2 p (rbT a ts []) (.val (St.mk a ts p).v) (.val (.int (St.mk a ts p).great.1)) (.val (.int (St.mk a ts p).great.2)) s3 hs.pl (fold_small hs.pl (show 0 ≤ (meas a ts []).1 by omega) q)
    simp only [List.map_nil] at e4
    simp only [St.great, St.v] at e2 e3 e5
    simp [R_State_shown, b_State_shown, St.v, e1, e2, e3, q2, e4, e5, St.shown]
end U
namespace U
open PySem L2
variable {D : Nat} {h : Hb} {s : St}
def first (t : Tm) : St := ⟨t, [], []⟩
/-- a closed term of some depth -/
structure Cl0 (t : Tm) : Prop where
  ok : t.Ok
  hin : t.In []
  dp : t.depth ≤ 60
theorem first_ok {t : Tm} (c : Cl0 t) : (first t).Ok := ⟨c.ok, c.hin, c.dp, (by have := c.dp; show 0 + t.depth ≤ 100; omega), (fun _ h => nomatch h), (fun _ h => nomatch h)⟩
theorem r_first {t : Tm} (c : Cl0 t) (hD : 66 ≤ D) : RUN D 111 [t.v] h = .ok (first t).v h := by
  obtain ⟨D, rfl, h1⟩ := suc hD
  have dp := c.dp
  have e1 := r_must_be_closed (h := h) (D := D) c.ok c.hin c.dp (by omega)
  have e2 := fun q fs => m_state (D := D) (a := t) (ts := []) (q := q) (by omega) fs
  rw [tiesV_nil] at e2
  simp [R_first_state, b_first_state, e1, e2, first, St.v, tiesV_nil]
noncomputable def St.go (s : St) : Nat → St
  | 0 => s
  | n + 1 => (s.go n).step
def Goes (s : St) (n : Nat) : Prop := ∀ m, m < n → (s.go m).next ≠ none
theorem Goes.mono {n m : Nat} (g : Goes s n) (l : m ≤ n) : Goes s m := fun k hk => g k (by omega)
theorem go_ok (hs : s.Ok) : ∀ {n : Nat}, Goes s n → (s.go n).Ok
  | 0, _ => hs
  | n + 1, g => by
    obtain ⟨z, e⟩ := Option.ne_none_iff_exists'.mp (g n (by omega))
    exact (go_ok hs (g.mono (by omega))).step e
theorem go_pile : ∀ n : Nat, (s.go n).pile.length ≤ s.pile.length + n
  | 0 => Nat.le_refl _
  | n + 1 => by
    have := go_pile n
    have := step_pile (s.go n)
    show (s.go n).step.pile.length ≤ _
    omega
/-- the sort of the n-th step -/
noncomputable def sortAt (s : St) (n : Nat) : Str := match (s.go n).next with
  | some z => z
  | none => ""
noncomputable def sortsL (s : St) : Nat → List Str
  | 0 => []
  | n + 1 => sortsL s n ++ [sortAt s n]
theorem sortsL_len : ∀ n : Nat, (sortsL s n).length = n
  | 0 => rfl
  | n + 1 => by rw [sortsL, List.length_append, sortsL_len n]; rfl
def sortsS : List Str := ["open", "look", "take", "turn", "next", "sum", "choose"]
def tallyT (l : List Str) : Ties := sortsS.map fun z => (z, .int (l.count z))
theorem next_mem {s : St} {z : Str} (hn : s.next = some z) : z ∈ sortsS := by
  obtain ⟨a, ts, p⟩ := s
  unfold sortsS
  cases a with
  | name x => simp [St.next] at hn; subst hn; simp
  | again x b => simp [St.next] at hn; subst hn; simp
  | give x b => simp [St.next] at hn; subst hn; simp
  | sum z x b => simp [St.next] at hn; subst hn; simp
  | cho z x b => simp [St.next] at hn; subst hn; simp
  | num n => cases p with
    | nil => simp [St.next] at hn
    | cons w p => cases w <;> simp [St.next, W.sort] at hn <;> (subst hn; simp)
  | mk n b => cases p with
    | nil => simp [St.next] at hn
    | cons w p => cases w <;> simp [St.next, W.sort] at hn <;> (subst hn; simp)
  | opn => cases p with
    | nil => simp [St.next] at hn
    | cons w p => cases w <;> simp [St.next, W.sort] at hn
theorem tally_get (l : List Str) {z : Str} (hz : z ∈ sortsS) : tget (tallyT l) z = some (.int (l.count z)) := by
  unfold sortsS at hz
  simp only [List.mem_cons, List.not_mem_nil, or_false] at hz
  rcases hz with e | e | e | e | e | e | e <;> (subst e; simp [tallyT, sortsS, tget])
theorem tally_put (l : List Str) {z : Str} (hz : z ∈ sortsS) : tput (tallyT l) z (.int (l.count z + 1)) = tallyT (l ++ [z]) := by
  unfold sortsS at hz
  simp only [List.mem_cons, List.not_mem_nil, or_false] at hz
  rcases hz with e | e | e | e | e | e | e <;> (subst e; simp [tallyT, sortsS, tput, List.count_append, List.count_cons])
theorem tally_len (l : List Str) : (tallyT l).length = 7 := by simp [tallyT, sortsS]
theorem tally_start : List.foldl (fun acc z => tput acc z (.int 0)) [] sortsS = tallyT [] := by
  simp [tallyT, sortsS, tput]
theorem sorts_pv : g_5 = .tup (sortsS.map .str) := rfl
theorem r_machine_run {t : Tm} (c : Cl0 t) {most k : Nat} (hm : most ≤ 900) (g : Goes (first t) k) (hk : k ≤ most) (hl : k = most ∨ ((first t).go k).next = none) (hD : 100 ≤ D) :
    RUN D 112 [t.v, .int most] h = .ok (.tup [((first t).go k).v, tiesV (tallyT (sortsL (first t) k)), .int k]) h := by
  obtain ⟨D, rfl, h1⟩ := suc hD
  have e1 := r_first (h := h) (D := D) c (by omega)
  have hs := first_ok c
  have L1 : ∀ (zs : List Str) (ts : Ties) (v0 v1 v2 s4 s5 : Sl), ts.length + zs.length ≤ 1000 → ∃ s4', forN (forB (EV D) (Tg.n 4) (Ss.cons (S.seto 3 (E.var 4) (E.int 0)) Ss.nil)) (zs.map .str) ⟨[v0, v1, v2, .dic (kvs ts), s4, s5], h⟩ =
      .ok .nx ⟨[v0, v1, v2, .dic (kvs (zs.foldl (fun acc z => tput acc z (.int 0)) ts)), s4', s5], h⟩ := by
    intro zs
    induction zs with
    | nil => intro ts v0 v1 v2 s4 s5 _; exact ⟨s4, rfl⟩
    | cons z zs ih =>
      intro ts v0 v1 v2 s4 s5 hl
      have := tput_len ts z (.int 0)
      rw [List.length_cons] at hl
      obtain ⟨s4', e⟩ := ih (tput ts z (.int 0)) v0 v1 v2 (.val (.str z)) s5 (by omega)
      refine ⟨s4', ?_⟩
      rw [List.map_cons, forN]
      have hl2 : ts.length < 10000 := by omega
      simp [slOwn, putJ, hl2, e]
  have L2 : ∀ (j i n : Nat) (s4 : Sl), i + j = k → j + 1 ≤ n → whlN (evT (EV D) (T.and_ (T.cmp CO.lt (E.var 5) (E.var 1)) (T.v (E.isn (E.meth (E.var 2) 16 Es.nil) true)))) (evSs (EV D) (Ss.cons (S.augo 3 (E.meth (E.var 2) 16 Es.nil) BO.add (E.int 1)) (Ss.cons (S.set 2 (E.meth (E.var 2) 18 Es.nil)) (Ss.cons (S.aug 5 BO.add (E.int 1)) Ss.nil)))) n
      ⟨[.val t.v, .val (.int most), .val ((first t).go i).v, .dic (kvs (tallyT (sortsL (first t) i))), s4, .val (.int i)], h⟩ =
      .ok .nx ⟨[.val t.v, .val (.int most), .val ((first t).go k).v, .dic (kvs (tallyT (sortsL (first t) k))), s4, .val (.int k)], h⟩ := by
    intro j
    induction j with
    | zero =>
      intro i n s4 hi hn
      have : i = k := by omega
      subst this
      obtain ⟨n, rfl, _⟩ := suc hn
      obtain ⟨f, n1, n2⟩ := says_next (D := D) (h := h) ((first t).go i) (by omega)
      rw [whlN]
      by_cases q : (i : Int) < (most : Int)
      · have : ((first t).go i).next = none := by rcases hl with e | e; omega; exact e
        rw [this] at n2
        have bb : ∀ {α β : Type} (r : R FS α) (k : α → FS → R FS β), r.bind k = @bI _ _ _ r ⟨k⟩ := fun _ _ => rfl
        rw [bb]
        simp [q, n1, n2, bv, isNon]
      · have bb : ∀ {α β : Type} (r : R FS α) (k : α → FS → R FS β), r.bind k = @bI _ _ _ r ⟨k⟩ := fun _ _ => rfl
        rw [bb]
        simp [q]
    | succ j ih =>
      intro i n s4 hi hn
      obtain ⟨n, rfl, hn'⟩ := suc hn
      have hik : i < k := by omega
      obtain ⟨z, ez⟩ := Option.ne_none_iff_exists'.mp (g i hik)
      obtain ⟨f, n1, n2⟩ := says_next (D := D) (h := h) ((first t).go i) (by omega)
      have hgo := go_ok hs (g.mono (Nat.le_of_lt hik))
      have hdp := hgo.dp
      have hpl := go_pile (s := first t) i
      have hp0 : (first t).pile.length = 0 := rfl
      obtain ⟨f2, m1, m2⟩ := says_step (D := D) (h := h) hgo (by omega) ez (by omega)
      rw [ez] at n2
      have q : (i : Int) < (most : Int) := by omega
      have hz := next_mem ez
      have e := ih (i + 1) n s4 (by omega) hn'
      have es : sortsL (first t) (i + 1) = sortsL (first t) i ++ [z] := by
        rw [sortsL, sortAt, ez]
      rw [es, ← tally_put _ hz] at e
      have eg : (first t).go (i + 1) = ((first t).go i).step := rfl
      rw [eg] at e
      have tg := tally_get (sortsL (first t) i) hz
      have tl := tally_len (sortsL (first t) i)
      have bb : ∀ {α β : Type} (r : R FS α) (k : α → FS → R FS β), r.bind k = @bI _ _ _ r ⟨k⟩ := fun _ _ => rfl
      rw [whlN, bb]
      simp [q, n1, n2, bv, isNon, m1, m2, slOwn, ownI, putJD, tg, tl]
      simpa using e
  obtain ⟨s4, e2⟩ := L1 sortsS [] (.val t.v) (.val (.int most)) (.val (first t).v) .un .un (by simp [sortsS])
  rw [tally_start] at e2
  have e3 := L2 k 0 1000 s4 (by omega) (by omega)
  have ek : kvs [] = [] := rfl
  rw [ek] at e2
  simp only [St.go, sortsL] at e3
  simp [R_machine_run, b_machine_run, e1, sorts_pv, e2]
  simp at e3
  simp [e3, kvs_v]
end U
namespace U
open PySem L2
variable {D : Nat} {h : Hb} {s : St}
theorem asL_obj {a : Nat} {xs : List PV} (e : h[a]? = some (.lst xs)) : asL h (.obj a) = some xs := by
  unfold asL
  dsimp only
  rw [e]
theorem ix_obj {a : Nat} {xs : List PV} {i : Int} (e : h[a]? = some (.lst xs)) : evIx h (.obj a) (.int i) = atI xs i := by
  have : asS h (.obj a) = some xs := asL_obj e
  unfold evIx
  dsimp only
  rw [this]
theorem cntL_str (z : Str) : ∀ l : List Str, cntL (.str z) (l.map .str) = (l.count z : Nat)
  | [] => rfl
  | y :: r => by
    rw [List.map_cons, cntL, cntL_str z r, eqv_ss, List.count_cons]
    by_cases q : y = z
    · simp [q]; omega
    · simp [q]
theorem cnt_str (z : Str) (l : List Str) : evBM .count h (.lst (l.map .str)) [.str z] = some (.int (l.count z)) := by
  show (if flat (.str z) && (l.map PV.str).all flat then some (PV.int (cntL (.str z) (l.map .str))) else none) = _
  rw [flat_str, cntL_str]
  rfl
theorem tally_all (l : List Str) : List.foldl (fun acc z => tput acc z (.int (l.count z))) [] sortsS = tallyT l := by
  simp [tallyT, sortsS, tput]
theorem r_tally_with (l : List Str) (hD : 1 ≤ D) : RUN D 116 [.lst (l.map .str)] h = .ok (tiesV (tallyT l)) h := by
  obtain ⟨D, rfl, h1⟩ := suc hD
  have L1 : ∀ (zs : List Str) (ts : Ties) (s2 : Sl), ts.length + zs.length ≤ 1000 → ∃ s2', forN (forB (EV D) (Tg.n 2) (Ss.cons (S.seto 1 (E.var 2) (E.bm BM.count (E.var 0) (Es.cons (E.var 2) Es.nil))) Ss.nil)) (zs.map .str) ⟨[.val (.lst (l.map .str)), .dic (kvs ts), s2], h⟩ =
      .ok .nx ⟨[.val (.lst (l.map .str)), .dic (kvs (zs.foldl (fun acc z => tput acc z (.int (l.count z))) ts)), s2'], h⟩ := by
    intro zs
    induction zs with
    | nil => intro ts s2 _; exact ⟨s2, rfl⟩
    | cons z zs ih =>
      intro ts s2 hl
      have := tput_len ts z (.int (l.count z))
      rw [List.length_cons] at hl
      obtain ⟨s2', e⟩ := ih (tput ts z (.int (l.count z))) (.val (.str z)) (by omega)
      refine ⟨s2', ?_⟩
      rw [List.map_cons, forN]
      have hl2 : ts.length < 10000 := by omega
      have hc := fun h => cnt_str (h := h) z l
      simp [slOwn, putJ, hl2, bmOk, hc]
      exact e
  obtain ⟨s2, e⟩ := L1 sortsS [] .un (by simp [sortsS])
  rw [tally_all] at e
  have ek : kvs [] = [] := rfl
  rw [ek] at e
  simp [R_tally_with, b_tally_with, sorts_pv, e, kvs_v]
noncomputable def statesL (s : St) (n : Nat) : List PV := (List.range (n + 1)).map fun i => (s.go i).v
theorem statesL_succ (s : St) (n : Nat) : statesL s (n + 1) = statesL s n ++ [(s.go (n + 1)).v] := by
  unfold statesL
  rw [List.range_succ (n := n + 1), List.map_append]
  rfl
theorem statesL_len (s : St) (n : Nat) : (statesL s n).length = n + 1 := by
  unfold statesL
  rw [List.length_map, List.length_range]
theorem statesL_at (s : St) {n i : Nat} (l : i ≤ n) : (statesL s n)[i]? = some (s.go i).v := by
  unfold statesL
  rw [List.getElem?_map, List.getElem?_range (by omega)]
  rfl
theorem sortsL_take (s : St) : ∀ {n i : Nat}, i ≤ n → (sortsL s n).take i = sortsL s i
  | 0, i, l => by
    have : i = 0 := by omega
    subst this
    rfl
  | n + 1, i, l => by
    by_cases q : i = n + 1
    · subst q
      exact List.take_of_length_le (by rw [sortsL_len]; exact Nat.le_refl _)
    · rw [sortsL, List.take_append_of_le_length (by rw [sortsL_len]; omega)]
      exact sortsL_take s (by omega)
def benchF (t : Tm) (b c e f : Nat) (here : Nat) : List (Nat × PV) := [(32, t.v), (37, .obj c), (38, .obj e), (39, .int here), (40, .obj f)]
/-- a bench at b: its lists at c and e, its marks at f -/
structure BAt (h : Hb) (b c e f : Nat) (t : Tm) (n here : Nat) : Prop where
  hb : h[b]? = some (.ins 40 (benchF t b c e f here))
  hc : h[c]? = some (.lst (statesL (first t) n))
  he : h[e]? = some (.lst ((sortsL (first t) n).map .str))
  bc : b ≠ c
  be : b ≠ e
  ce : c ≠ e
  fc : f ≠ b ∧ f ≠ c ∧ f ≠ e
  cl : Cl0 t
  g : Goes (first t) n
  le : here ≤ n
  n3 : n ≤ 300
/-- nothing but a bench is changed -/
def Same (h h' : Hb) (l : List Nat) : Prop := h'.length = h.length ∧ ∀ a, a ∉ l → h'[a]? = h[a]?
theorem Same.refl {l : List Nat} : Same h h l := ⟨rfl, fun _ _ => rfl⟩
theorem Same.trans {h1 h2 h3 : Hb} {l : List Nat} (a : Same h1 h2 l) (b : Same h2 h3 l) : Same h1 h3 l := ⟨b.1.trans a.1, fun x hx => (b.2 x hx).trans (a.2 x hx)⟩
theorem Same.mono {h1 h2 : Hb} {l m : List Nat} (a : Same h1 h2 l) (s : ∀ x ∈ l, x ∈ m) : Same h1 h2 m := ⟨a.1, fun x hx => a.2 x fun q => hx (s x q)⟩
theorem same_set {a : Nat} {o : HB} {l : List Nat} (m : a ∈ l) : Same h (h.set a o) l := ⟨List.length_set, fun x hx => List.getElem?_set_ne (by intro e; subst e; exact hx m)⟩
theorem lt_of_some {a : Nat} {o : HB} (e : h[a]? = some o) : a < h.length := by
  rcases Nat.lt_or_ge a h.length with q | q
  · exact q
  · rw [List.getElem?_eq_none q] at e; cases e
theorem get_set {a : Nat} {o p : HB} (e : h[a]? = some p) : (h.set a o)[a]? = some o := List.getElem?_set_self (lt_of_some e)
theorem get_set_ne {a b : Nat} {o : HB} (n : a ≠ b) : (h.set a o)[b]? = h[b]? := List.getElem?_set_ne n
theorem putF_obj {sl : List Sl} {a k : Nat} {y : PV} {fl : List (Nat × PV)} (e : h[a]? = some (.ins 40 fl)) (l : fl.length < 900) (m : k ∈ [32, 37, 38, 39, 40]) : putF' tab (.obj a) k y ⟨sl, h⟩ = .ok .nx ⟨sl, h.set a (.ins 40 (fPut fl k y))⟩ := by
  unfold putF'
  dsimp only
  rw [e]
  show (if c_Bench.exc = false ∧ fl.length < 900 ∧ k ∈ c_Bench.flds then R.ok Fl.nx (putO ⟨sl, h⟩ a (.ins 40 (fPut fl k y))) else .no) = _
  exact if_pos ⟨rfl, l, m⟩
theorem bench_here (t : Tm) (b c e f i j : Nat) : fPut (benchF t b c e f i) 39 (.int j) = benchF t b c e f j := rfl
variable {b c e f n here : Nat} {t : Tm}
theorem BAt.set (B : BAt h b c e f t n here) {j : Nat} (l : j ≤ n) : BAt (h.set b (.ins 40 (benchF t b c e f j))) b c e f t n j :=
  { B with hb := get_set B.hb, hc := by rw [get_set_ne B.bc]; exact B.hc, he := by rw [get_set_ne B.be]; exact B.he, le := l }
theorem says_bench (B : BAt h b c e f t n here) (m : Nat) (k : Nat) (hm : t_meth 40 m = some k) : mfind tab h (.obj b) m = some k := by
  rw [mfind_obj B.hb, hm]
theorem isLst_obj {a : Nat} {xs : List PV} (e : h[a]? = some (.lst xs)) : isLst h (.obj a) = true := by
  unfold isLst
  dsimp only
  rw [e]
theorem mutO_obj {m : MM} {sl : List Sl} {a : Nat} {xs vs ys : List PV} {y : PV} (e : h[a]? = some (.lst xs)) (q : evMM m h xs vs = some (y, ys)) : mutO m (.obj a) vs ⟨sl, h⟩ = .ok y ⟨sl, h.set a (.lst ys)⟩ := by
  unfold mutO
  dsimp only
  rw [e]
  dsimp only
  rw [q]
  rfl
/-- is_next: whether there is a state behind -/
theorem r_is_next_old (B : BAt h b c e f t n here) (l : here < n) (hD : 1 ≤ D) : RUN D 221 [.obj b] h = .ok (.bl true) h := by
  obtain ⟨D, rfl, h1⟩ := suc hD
  have f1 := fun k => fldV_obj (k := k) B.hb
  have l1 := len_obj B.hc
  rw [statesL_len] at l1
  have q : (here : Int) + 1 < ((n + 1 : Nat) : Int) := by omega
  simp [R_Bench_is_next, b_Bench_is_next, f1, benchF, fGet, l1]
  simp at q
  simp [q]
theorem r_is_next_300 (B : BAt h b c e f t n here) (l : here = n) (l3 : 300 ≤ here) (hD : 1 ≤ D) : RUN D 221 [.obj b] h = .ok (.bl false) h := by
  obtain ⟨D, rfl, h1⟩ := suc hD
  have f1 := fun k => fldV_obj (k := k) B.hb
  have l1 := len_obj B.hc
  rw [statesL_len] at l1
  have q : ¬ (here : Int) < (n : Int) := by omega
  have q3 : (300 : Int) ≤ (here : Int) := by omega
  simp [R_Bench_is_next, b_Bench_is_next, f1, benchF, fGet, l1, g_11, q, q3]
theorem r_is_next_end (B : BAt h b c e f t n here) (l : here = n) (hn : ((first t).go n).next = none) (hD : 100 ≤ D) : RUN D 221 [.obj b] h = .ok (.bl false) h := by
  obtain ⟨D, rfl, h1⟩ := suc hD
  subst l
  have f1 := fun k => fldV_obj (k := k) B.hb
  have l1 := len_obj B.hc
  rw [statesL_len] at l1
  have q : ¬ (here : Int) < (here : Int) := by omega
  have i1 := ix_obj (i := here) B.hc
  rw [atI_nat, statesL_at _ (Nat.le_refl _)] at i1
  obtain ⟨f', n1, n2⟩ := says_next (D := D) (h := h) ((first t).go here) (by omega)
  rw [hn] at n2
  by_cases q3 : (300 : Int) ≤ (here : Int)
  · simp [R_Bench_is_next, b_Bench_is_next, f1, benchF, fGet, l1, g_11, q, q3]
  · simp [R_Bench_is_next, b_Bench_is_next, f1, benchF, fGet, l1, g_11, q, q3, i1, n1, n2, bv, isNon]
theorem r_is_next_new (B : BAt h b c e f t n here) (l : here = n) (l3 : here < 300) (hn : ((first t).go n).next ≠ none) (hD : 100 ≤ D) : ∃ h', RUN D 221 [.obj b] h = .ok (.bl true) h' ∧ BAt h' b c e f t (n + 1) here ∧ Same h h' [b, c, e] := by
  obtain ⟨D, rfl, h1⟩ := suc hD
  subst l
  obtain ⟨z, ez⟩ := Option.ne_none_iff_exists'.mp hn
  have f1 := fun k => fldV_obj (k := k) B.hb
  have l1 := len_obj B.hc
  rw [statesL_len] at l1
  have q : ¬ (here : Int) < (here : Int) := by omega
  have q3 : ¬ (300 : Int) ≤ (here : Int) := by omega
  have i1 := ix_obj (i := here) B.hc
  rw [atI_nat, statesL_at _ (Nat.le_refl _)] at i1
  obtain ⟨f', n1, n2⟩ := says_next (D := D) (h := h) ((first t).go here) (by omega)
  rw [ez] at n2
  have hgo := go_ok (first_ok B.cl) B.g
  have hdp := hgo.dp
  have hpl := go_pile (s := first t) here
  have hp0 : (first t).pile.length = 0 := rfl
  obtain ⟨f2, m1, m2⟩ := says_step (D := D) (h := h) hgo (by omega) ez (by omega)
  have lc := isLst_obj B.hc
  have a1 : ∀ sl, mutO .append (.obj c) [((first t).go here).step.v] ⟨sl, h⟩ = .ok .non ⟨sl, h.set c (.lst (statesL (first t) (here + 1)))⟩ := fun sl =>
    mutO_obj B.hc (by rw [app_l (by rw [statesL_len]; exact le_sz (by omega)), statesL_succ]; rfl)
  have f2' := fun k => fldV_obj (k := k) (show (h.set c (.lst (statesL (first t) (here + 1))))[b]? = some _ by rw [get_set_ne B.bc.symm]; exact B.hb)
  have he' : (h.set c (.lst (statesL (first t) (here + 1))))[e]? = some _ := (get_set_ne B.ce).trans B.he
  have le := isLst_obj he'
  have es : sortsL (first t) (here + 1) = sortsL (first t) here ++ [z] := by
    rw [sortsL, sortAt, ez]
  have a2 : ∀ sl, mutO .append (.obj e) [.str z] ⟨sl, h.set c (.lst (statesL (first t) (here + 1)))⟩ = .ok .non ⟨sl, (h.set c (.lst (statesL (first t) (here + 1)))).set e (.lst ((sortsL (first t) (here + 1)).map .str))⟩ := fun sl =>
    mutO_obj he' (by rw [app_l (by rw [List.length_map, sortsL_len]; exact le_sz (by omega)), es, List.map_append]; rfl)
  refine ⟨(h.set c (.lst (statesL (first t) (here + 1)))).set e (.lst ((sortsL (first t) (here + 1)).map .str)), ?_, ?_, ?_⟩
  · simp [R_Bench_is_next, b_Bench_is_next, f1, benchF, fGet, l1, g_11, q, q3, i1, n1, n2, bv, isNon, m1, m2, lc, a1, f2', le, a2]
  · exact { B with
      hb := by rw [get_set_ne B.be.symm, get_set_ne B.bc.symm]; exact B.hb
      hc := by rw [get_set_ne B.ce.symm]; exact get_set B.hc
      he := get_set he'
      g := fun m hm => by
        by_cases q : m = here
        · rw [q]; exact hn
        · exact B.g m (by omega)
      le := by omega
      n3 := by omega }
  · exact (same_set (by simp)).trans (same_set (by simp))
theorem bench_goes (B : BAt h b c e f t n here) (hD : 100 ≤ D) : (∃ h' n', RUN D 221 [.obj b] h = .ok (.bl true) h' ∧ BAt h' b c e f t n' here ∧ Same h h' [b, c, e] ∧ here < n' ∧ n ≤ n') ∨ (RUN D 221 [.obj b] h = .ok (.bl false) h ∧ here = n ∧ (300 ≤ here ∨ ((first t).go here).next = none)) := by
  have := B.le
  by_cases q : here < n
  · exact .inl ⟨h, n, r_is_next_old B q (by omega), B, .refl, q, by omega⟩
  · have q2 : here = n := by omega
    by_cases q3 : 300 ≤ here
    · exact .inr ⟨r_is_next_300 B q2 q3 (by omega), q2, .inl q3⟩
    · by_cases q4 : ((first t).go n).next = none
      · exact .inr ⟨r_is_next_end B q2 q4 hD, q2, .inr (by rw [q2]; exact q4)⟩
      · obtain ⟨h', a, b', c'⟩ := r_is_next_new B q2 (by omega) q4 hD
        exact .inl ⟨h', n + 1, a, b', c', by omega, by omega⟩
theorem augf_here (B : BAt h b c e f t n here) {sl : List Sl} {z : Int} {j : Nat} (hz : z = j) : putF' tab (.obj b) 39 (.int z) ⟨sl, h⟩ = .ok .nx ⟨sl, h.set b (.ins 40 (benchF t b c e f j))⟩ := by
  subst hz
  rw [putF_obj B.hb (by simp [benchF]) (by simp), bench_here]
theorem clOf_b (B : BAt h b c e f t n here) : clOf h (.obj b) = some 40 := by
  unfold clOf
  dsimp only
  rw [B.hb]
/-- forth: by so many steps, k of them: k = many, or no more can be done -/
theorem r_forth (B : BAt h b c e f t n here) {many k : Nat} (hm : many ≤ 1000) (hk : k ≤ many) (h3 : here + k ≤ 300) (g : Goes (first t) (here + k)) (hl : k = many ∨ 300 ≤ here + k ∨ ((first t).go (here + k)).next = none) (hD : 101 ≤ D) :
    ∃ h' n', RUN D 220 [.obj b, .int many] h = .ok (.int k) h' ∧ BAt h' b c e f t n' (here + k) ∧ Same h h' [b, c, e] ∧ n ≤ n' := by
  obtain ⟨D, rfl, h1⟩ := suc hD
  have L : ∀ (j i m fu : Nat) (h0 : Hb), i + j = k → j + 1 ≤ fu → BAt h0 b c e f t m (here + i) → ∃ h' n', whlN (evT (EV D) (T.and_ (T.cmp CO.lt (E.fld (E.var 0) 39) (E.bin BO.add (E.var 2) (E.var 1))) (T.v (E.meth (E.var 0) 60 Es.nil)))) (evSs (EV D) (Ss.cons (S.augf (E.var 0) 39 BO.add (E.int 1)) Ss.nil)) fu
      ⟨[.val (.obj b), .val (.int many), .val (.int here)], h0⟩ = .ok .nx ⟨[.val (.obj b), .val (.int many), .val (.int here)], h'⟩ ∧ BAt h' b c e f t n' (here + k) ∧ Same h0 h' [b, c, e] ∧ m ≤ n' := by
    intro j
    induction j with
    | zero =>
      intro i m fu h0 hi hfu B0
      have : i = k := by omega
      subst this
      obtain ⟨fu, rfl, _⟩ := suc hfu
      have f1 := fun k => fldV_obj (k := k) B0.hb
      have m1 := says_bench B0 60 221 rfl
      have bb : ∀ {α β : Type} (r : R FS α) (k : α → FS → R FS β), r.bind k = @bI _ _ _ r ⟨k⟩ := fun _ _ => rfl
      rw [whlN, bb]
      by_cases q : i = many
      · have q1 : ¬ ((here + i : Nat) : Int) < (here : Int) + (many : Int) := by omega
        refine ⟨h0, m, ?_, B0, .refl, Nat.le_refl _⟩
        have q3 : ¬ i < many := by omega
        simp at q1
        simp [f1, benchF, fGet, q3]
      · have q1 : ((here + i : Nat) : Int) < (here : Int) + (many : Int) := by omega
        rcases bench_goes (D := D) B0 (by omega) with ⟨h', n', _, B', _, l1, _⟩ | ⟨r1, e1, _⟩
        · rcases hl with e | e | e
          · exact absurd e q
          · exact absurd l1 (by have := B'.n3; omega)
          · exact absurd e (B'.g _ l1)
        · refine ⟨h0, m, ?_, B0, .refl, Nat.le_refl _⟩
          simp at q1
          simp [f1, benchF, fGet, q1, m1, r1]
    | succ j ih =>
      intro i m fu h0 hi hfu B0
      obtain ⟨fu, rfl, hfu'⟩ := suc hfu
      have f1 := fun k => fldV_obj (k := k) B0.hb
      have m1 := says_bench B0 60 221 rfl
      have bb : ∀ {α β : Type} (r : R FS α) (k : α → FS → R FS β), r.bind k = @bI _ _ _ r ⟨k⟩ := fun _ _ => rfl
      have q1 : ((here + i : Nat) : Int) < (here : Int) + (many : Int) := by omega
      rcases bench_goes (D := D) B0 (by omega) with ⟨h', n', r1, B', s1, l1, l2⟩ | ⟨_, _, e1⟩
      · have f2 := fun k => fldV_obj (k := k) B'.hb
        have p1 := fun sl => augf_here B' (sl := sl) (z := ((here + i : Nat) : Int) + 1) (j := here + (i + 1)) (by omega)
        have c1 := clOf_b B'
        have B2 := B'.set (j := here + (i + 1)) (by omega)
        obtain ⟨h2, n2, e2, B3, s2, l3⟩ := ih (i + 1) n' fu _ (by omega) hfu' B2
        refine ⟨h2, n2, ?_, B3, s1.trans ((same_set (by simp)).trans s2), by omega⟩
        rw [whlN, bb]
        simp at q1
        simp [f1, benchF, fGet, q1, m1, r1, f2, c1]
        simp [benchF] at p1 e2
        simp [p1, e2]
      · rcases e1 with e1 | e1
        · exact absurd e1 (by omega)
        · exact absurd e1 (g _ (by omega))
  obtain ⟨h', n', e1, B', s', l'⟩ := L k 0 n 1000 h (by omega) (by omega) B
  have f1 := fun k => fldV_obj (k := k) B.hb
  have f2 := fun k => fldV_obj (k := k) B'.hb
  refine ⟨h', n', ?_, B', s', l'⟩
  simp [R_Bench_forth, b_Bench_forth, f1, benchF, fGet, e1, f2]
  omega
theorem r_back (B : BAt h b c e f t n here) {many : Nat} (hD : 1 ≤ D) : ∃ h', RUN D 222 [.obj b, .int many] h = .ok (.int (min many here)) h' ∧ BAt h' b c e f t n (here - min many here) ∧ Same h h' [b, c, e] := by
  obtain ⟨D, rfl, h1⟩ := suc hD
  have f1 := fun k => fldV_obj (k := k) B.hb
  have le := B.le
  have p1 := fun sl => augf_here B (sl := sl) (z := (here : Int) - min (many : Int) (here : Int)) (j := here - min many here) (by omega)
  have B2 := B.set (j := here - min many here) (by omega)
  refine ⟨_, ?_, B2, same_set (by simp)⟩
  simp [benchF] at p1
  simp [R_Bench_back, b_Bench_back, f1, benchF, fGet, p1]
theorem st_at (B : BAt h b c e f t n here) : evIx h (.obj c) (.int here) = some ((first t).go here).v := by
  have i1 := ix_obj (i := here) B.hc
  rw [atI_nat, statesL_at _ B.le] at i1
  exact i1
theorem go_at (B : BAt h b c e f t n here) : ((first t).go here).Ok := go_ok (first_ok B.cl) (B.g.mono B.le)
theorem r_bdone (B : BAt h b c e f t n here) (hD : 1 ≤ D) : RUN D 223 [.obj b] h = .ok (.int here) h := by
  obtain ⟨D, rfl, h1⟩ := suc hD
  have f1 := fun k => fldV_obj (k := k) B.hb
  simp [R_Bench_done, b_Bench_done, f1, benchF, fGet]
theorem r_bhow (B : BAt h b c e f t n here) (hD : 10 ≤ D) : RUN D 224 [.obj b] h = .ok (.str ((first t).go here).how) h := by
  obtain ⟨D, rfl, h1⟩ := suc hD
  have f1 := fun k => fldV_obj (k := k) B.hb
  have i1 := st_at B
  obtain ⟨f', n1, n2⟩ := says_how (D := D) (h := h) ((first t).go here) (by omega)
  simp [R_Bench_how, b_Bench_how, f1, benchF, fGet, i1, n1, n2]
theorem r_bcame (B : BAt h b c e f t n here) (hD : 10 ≤ D) : RUN D 225 [.obj b] h = .ok ((first t).go here).came h := by
  obtain ⟨D, rfl, h1⟩ := suc hD
  have f1 := fun k => fldV_obj (k := k) B.hb
  have i1 := st_at B
  obtain ⟨f', n1, n2⟩ := says_came (D := D) (h := h) ((first t).go here) (by omega)
  simp [R_Bench_came, b_Bench_came, f1, benchF, fGet, i1, n1, n2]
theorem r_bheight (B : BAt h b c e f t n here) (hD : 10 ≤ D) : RUN D 226 [.obj b] h = .ok (.int ((first t).go here).pile.length) h := by
  obtain ⟨D, rfl, h1⟩ := suc hD
  have f1 := fun k => fldV_obj (k := k) B.hb
  have i1 := st_at B
  obtain ⟨f', n1, n2⟩ := says_height (D := D) (h := h) ((first t).go here) (by omega)
  simp [R_Bench_height, b_Bench_height, f1, benchF, fGet, i1, n1, n2]
theorem showR_up (s : St) (fs : FS) : R.up fs (s.showR fs.hp) = if Beyond s.great then .ex 5 [] fs else .ok s.shown.v fs := by
  unfold St.showR
  split <;> rfl
theorem r_bshown (B : BAt h b c e f t n here) (hD : 100 ≤ D) : RUN D 227 [.obj b] h = ((first t).go here).showR h := by
  obtain ⟨D, rfl, h1⟩ := suc hD
  have f1 := fun k => fldV_obj (k := k) B.hb
  have i1 := st_at B
  have dp := (go_at B).dp
  have e1 := r_shown (h := h) (D := D) (go_at B) (by omega)
  have m1 : mfind tab h ((first t).go here).v 21 = some 106 := rfl
  unfold St.showR at e1 ⊢
  by_cases q : Beyond ((first t).go here).great
  · rw [if_pos q] at e1 ⊢
    simp [R_Bench_shown, b_Bench_shown, f1, benchF, fGet, i1, m1, e1]
  · rw [if_neg q] at e1 ⊢
    simp [R_Bench_shown, b_Bench_shown, f1, benchF, fGet, i1, m1, e1]
theorem cut_take {α : Type} (xs : List α) (n : Nat) : cut xs none (some (n : Int)) = xs.take n := by
  unfold cut
  rw [HT.sIx_none, HT.sIx_nat, List.drop_zero, Nat.sub_zero]
  by_cases q : n ≤ xs.length
  · rw [Nat.min_eq_left q]
  · rw [Nat.min_eq_right (by omega), List.take_of_length_le (Nat.le_refl _), List.take_of_length_le (by omega)]
theorem getD_ties (ts : Ties) (fs : FS) : getD (.ok (tiesV ts) fs) = .ok (kvs ts) fs := by
  show R.ok (zipD _ _) fs = _
  rw [zip_ties]
theorem r_btally (B : BAt h b c e f t n here) (hD : 10 ≤ D) : RUN D 228 [.obj b] h = .ok (tiesV (tallyT (sortsL (first t) here))) h := by
  obtain ⟨D, rfl, h1⟩ := suc hD
  have f1 := fun k => fldV_obj (k := k) B.hb
  have a1 := asL_obj B.he
  have c1 : cut ((sortsL (first t) n).map PV.str) none (some (here : Int)) = (sortsL (first t) here).map .str := by
    rw [cut_take, ← List.map_take, sortsL_take _ B.le]
  have e1 := r_tally_with (h := h) (D := D) (sortsL (first t) here) (by omega)
  simp [R_Bench_tally, b_Bench_tally, f1, benchF, fGet, a1, c1, e1, getD_ties, kvs_v]
end U
namespace U
open PySem L2
variable {D : Nat} {h : Hb}
/-- the law's state: a list of the cells, the place, the mixed number -/
structure LS0 (h : Hb) (st c : Nat) (cs : List Int) (a m : Int) : Prop where
  hs : h[st]? = some (.lst [.obj c, .int a, .int m])
  hc : h[c]? = some (.lst (cs.map .int))
  ne : c ≠ st
  n0 : 0 < cs.length
  a0 : 0 ≤ a
  m0 : 0 ≤ m
  m1 : m < 2147483647
def LSt (h : Hb) (st c : Nat) : Prop := ∃ cs a m, LS0 h st c cs a m
theorem putI_obj {sl : List Sl} {a : Nat} {xs : List PV} {i : Int} {j : Nat} {v : PV} (e : h[a]? = some (.lst xs)) (hi : i = j) (l : j < xs.length) : putI (.obj a) (.int i) v ⟨sl, h⟩ = .ok .nx ⟨sl, h.set a (.lst (xs.set j v))⟩ := by
  subst hi
  unfold putI
  dsimp only
  rw [e]
  dsimp only
  have : ixN xs.length (j : Int) = some j := by
    unfold ixN
    rw [if_pos (by omega), if_pos (by omega)]
    rfl
  rw [this]
  rfl
theorem atI_ints (cs : List Int) {i : Int} (h0 : 0 ≤ i) (h1 : i < cs.length) : ∃ x, cs[i.toNat]? = some x ∧ atI (cs.map PV.int) i = some (.int x) := by
  obtain ⟨n, rfl⟩ := Int.eq_ofNat_of_zero_le h0
  have hn : n < cs.length := by omega
  refine ⟨cs[n], by rw [Int.toNat_natCast, List.getElem?_eq_getElem hn], ?_⟩
  rw [atI_nat, List.getElem?_map, List.getElem?_eq_getElem hn]
  rfl
/-- a draw -/
theorem r_draw {st c : Nat} (L : LSt h st c) {z : Int} (z0 : 0 < z) (z1 : z < 1000000) (hD : 1 ≤ D) : ∃ k h', RUN D 301 [.obj st, .int z] h = .ok (.int k) h' ∧ 0 ≤ k ∧ k < z ∧ LSt h' st c ∧ Same h h' [st, c] := by
  obtain ⟨D, rfl, h1⟩ := suc hD
  obtain ⟨cs, a, m, L⟩ := L
  have i0 := ix_obj (i := 0) L.hs
  have i1 := ix_obj (i := 1) L.hs
  have i2 := ix_obj (i := 2) L.hs
  simp at i0 i1 i2
  have l1 := len_obj L.hc
  rw [List.length_map] at l1
  have n0 := L.n0
  have em := bin_mod_ii (i := a) (j := (cs.length : Int)) (by omega)
  have q0 : 0 ≤ a % (cs.length : Int) := Int.emod_nonneg _ (by omega)
  have q1 : a % (cs.length : Int) < cs.length := Int.emod_lt_of_pos _ (by omega)
  obtain ⟨x, ex, ea⟩ := atI_ints cs q0 q1
  have ic := ix_obj (i := a % (cs.length : Int)) L.hc
  rw [ea] at ic
  by_cases q : 1000000000000000000 ≤ x
  · have p1 := fun v sl => putI_obj (sl := sl) (v := v) (j := (a % (cs.length : Int)).toNat) L.hc (by omega : a % (cs.length : Int) = _) (by rw [List.length_map]; omega)
    have d1 := bin_fdiv_ii (i := x) (j := z) (by omega)
    have d2 := bin_mod_ii (i := x) (j := z) z0
    refine ⟨x % z, h.set c (.lst ((cs.map PV.int).set (a % (cs.length : Int)).toNat (.int (x / z)))), ?_, Int.emod_nonneg _ (by omega), Int.emod_lt_of_pos _ z0, ?_, same_set (by simp)⟩
    · simp [R__law_draw, b__law_draw, i0, i1, l1, em, ic, q, d1, p1, d2]
    · refine ⟨cs.set (a % (cs.length : Int)).toNat (x / z), a, m, ?_, ?_, L.ne, ?_, L.a0, L.m0, L.m1⟩
      · rw [get_set_ne L.ne]; exact L.hs
      · rw [get_set L.hc, List.map_set]
      · rw [List.length_set]; exact n0
  · have m0 := L.m0
    have m1 := L.m1
    have b1 := bin_mul_ii (i := m) (j := 48271) (.inr (by omega))
    have b2 := bin_mod_ii (i := m * 48271 + x + 12345) (j := 2147483647) (by omega)
    have r0 : 0 ≤ (m * 48271 + x + 12345) % 2147483647 := Int.emod_nonneg _ (by omega)
    have r1 : (m * 48271 + x + 12345) % 2147483647 < 2147483647 := Int.emod_lt_of_pos _ (by omega)
    generalize hm' : (m * 48271 + x + 12345) % 2147483647 = m' at *
    have b3 := bin_mul_ii (i := m') (j := m') (.inl (by omega))
    have b4 := bin_mod_ii (i := m' * m') (j := 2147483629) (by omega)
    have b5 := bin_fdiv_ii (i := m' * m' % 2147483629) (j := 16) (by omega)
    have b6 := bin_mod_ii (i := m' * m' % 2147483629 / 16) (j := z) z0
    have p1 := fun v sl => putI_obj (sl := sl) (v := v) (i := 1) (j := 1) L.hs (by omega) (by simp)
    have hs2 : (h.set st (.lst [.obj c, .int (a + 1), .int m]))[st]? = _ := get_set L.hs
    have p2 := fun v sl => putI_obj (sl := sl) (v := v) (i := 2) (j := 2) hs2 (by omega) (by simp)
    have hs3 : ((h.set st (.lst [.obj c, .int (a + 1), .int m])).set st (.lst [.obj c, .int (a + 1), .int m']))[st]? = _ := get_set hs2
    have j2 := ix_obj (i := 2) hs2
    have k2 := ix_obj (i := 2) hs3
    simp at j2 k2 p1 p2
    refine ⟨m' * m' % 2147483629 / 16 % z, (h.set st (.lst [.obj c, .int (a + 1), .int m])).set st (.lst [.obj c, .int (a + 1), .int m']), ?_, Int.emod_nonneg _ (by omega), Int.emod_lt_of_pos _ z0, ?_, (same_set (by simp)).trans (same_set (by simp))⟩
    · simp [R__law_draw, b__law_draw, i0, i1, i2, l1, em, ic, q, p1, j2, b1, b2, p2, k2, b3, b4, b5, b6]
    · refine ⟨cs, a + 1, m', hs3, ?_, L.ne, n0, by have := L.a0; omega, r0, r1⟩
      rw [get_set_ne L.ne.symm, get_set_ne L.ne.symm]
      exact L.hc
/-- what a def of draws brings -/
def Dr (st c : Nat) (h : Hb) (r : R Hb PV) (P : PV → Prop) : Prop := ∃ v h', r = .ok v h' ∧ P v ∧ LSt h' st c ∧ Same h h' [st, c]
theorem cmpN_inv {α : Type} {turn : PV → FS → R FS (Option PV)} {g : α → PV} {sl : List Sl} {I : Hb → Prop} {Q : PV → Prop} : ∀ {as : List α} {acc : List PV} {hp : Hb}, I hp → (∀ a ∈ as, ∀ hp, I hp → ∃ y sl' hp', turn (g a) ⟨sl, hp⟩ = .ok (some y) ⟨sl', hp'⟩ ∧ Q y ∧ I hp') → acc.length + as.length ≤ sizeLine →
    ∃ ys hp', cmpN turn (as.map g) hp sl acc = .ok (acc ++ ys) hp' ∧ I hp' ∧ ys.length = as.length ∧ ∀ y ∈ ys, Q y
  | [], acc, hp, i, _, _ => ⟨[], hp, by rw [List.map_nil, cmpN, List.append_nil], i, rfl, fun _ h => nomatch h⟩
  | x :: r, acc, hp, i, h, l => by
    obtain ⟨y, sl', hp1, e, q, i1⟩ := h x List.mem_cons_self hp i
    rw [List.length_cons] at l
    obtain ⟨ys, hp2, e2, i2, l2, q2⟩ := cmpN_inv (acc := acc ++ [y]) i1 (fun a ha => h a (List.mem_cons_of_mem _ ha)) (by rw [List.length_append]; simp only [List.length_cons, List.length_nil]; omega)
    refine ⟨y :: ys, hp2, ?_, i2, by rw [List.length_cons, List.length_cons, l2], fun z hz => ?_⟩
    · rw [List.map_cons, cmpN, e]
      dsimp only
      rw [if_pos (by omega), e2, List.append_assoc]
      rfl
    · rcases List.mem_cons.mp hz with e | e
      · rw [e]; exact q
      · exact q2 z e
theorem range0_map : ∀ (n : Nat) (i : Int), range0 n i = (List.range n).map fun j => .int (i + (j : Nat))
  | 0, _ => rfl
  | n + 1, i => by
    rw [range0, range0_map n (i + 1), List.range_succ_eq_map, List.map_cons, List.map_map]
    congr 1
    · simp
    · congr 1
      funext j
      show PV.int _ = PV.int _
      congr 1
      show i + 1 + (j : Int) = i + ((j + 1 : Nat) : Int)
      omega
theorem atI_strs (l : List Str) {i : Int} (h0 : 0 ≤ i) (h1 : i < l.length) : ∃ x ∈ l, atI (l.map PV.str) i = some (.str x) := by
  obtain ⟨n, rfl⟩ := Int.eq_ofNat_of_zero_le h0
  have hn : n < l.length := by omega
  refine ⟨l[n], List.getElem_mem hn, ?_⟩
  rw [atI_nat, List.getElem?_map, List.getElem?_eq_getElem hn]
  rfl
theorem canLay_strs : ∀ l : List Str, (∀ x ∈ l, PyData.strOk x = true) → PyData.canLayAll0 (toDs (l.map .str)) = true
  | [], _ => rfl
  | x :: r, h => by
    show (PyData.strOk x && PyData.canLayAll0 (toDs (r.map .str))) = true
    rw [h x List.mem_cons_self, canLay_strs r fun y hy => h y (List.mem_cons_of_mem _ hy)]
    rfl
theorem depth_strs : ∀ l : List Str, PyData.depthAll (toDs (l.map .str)) = 0
  | [] => rfl
  | x :: r => by
    show max 0 (PyData.depthAll (toDs (r.map .str))) = 0
    rw [depth_strs r]
    rfl
theorem plain_strs {l : List Str} (h : ∀ x ∈ l, PyData.strOk x = true) : plain (.lst (l.map .str)) = true := by
  show (PyData.canLayAll0 (toDs (l.map .str)) && decide (PyData.depthAll (toDs (l.map .str)) + 1 ≤ 64)) = true
  rw [canLay_strs l h, depth_strs]
  rfl
theorem ne_nil_strs {l : List Str} (h' : ∀ x ∈ l, PyData.strOk x = true) : evCmp .ne h (.lst (l.map .str)) (.lst []) = some (!l.isEmpty) := by
  have p1 := plain_strs h'
  show (evEq h (.lst (l.map .str)) (.lst [])).map (!·) = _
  rw [evEq_plain (h := h) (x := .lst (l.map .str)) (y := .lst []) rfl p1 (show plain (.lst []) = true by decide)]
  cases l <;> rfl
theorem join_cps : ∀ ts : List Str, (Str.join "" ts).cps.toList = ts.flatMap fun t => t.cps.toList
  | [] => rfl
  | [x] => by simp [Str.join]
  | x :: y :: r => by
    have ih := join_cps (y :: r)
    show (x ++ "" ++ Str.join "" (y :: r)).cps.toList = _
    have e : ∀ a b : Str, (a ++ b).cps.toList = a.cps.toList ++ b.cps.toList := fun a b => Array.toList_append
    have e0 : (("" : Str)).cps.toList = [] := by rw [cps_ofString]; rfl
    rw [e, e, e0, ih, List.append_nil]
    simp only [List.flatMap_cons]
/-- a text of one letter each -/
theorem join_ok {cs : List Nat} (l1 : 1 ≤ cs.length) (l8 : cs.length ≤ 8) (ab : ∀ c ∈ cs, c ∈ letters.cps.toList) : ∃ x, OkN x ∧ evBM .join h (.str "") [.lst (cs.map fun c => .str ⟨#[c]⟩)] = some (.str x) := by
  have et : txts (cs.map fun c => PV.str ⟨#[c]⟩) = some (cs.map fun c => ⟨#[c]⟩) := by
    have := txts_str (cs.map fun c => (⟨#[c]⟩ : Str))
    rw [List.map_map] at this
    exact this
  have es : ((cs.map fun c => (⟨#[c]⟩ : Str)).map Str.length).sum = cs.length := by
    clear l1 l8 ab et
    induction cs with
    | nil => rfl
    | cons c r ih => rw [List.map_cons, List.map_cons, List.sum_cons, ih, List.length_cons]; show 1 + r.length = _; omega
  refine ⟨Txt.join "" (cs.map fun c => ⟨#[c]⟩), ?_, ?_⟩
  · have ej : (Txt.join "" (cs.map fun c => (⟨#[c]⟩ : Str))).cps.toList = cs := by
      unfold Txt.join
      rw [StrLaws.glued_eq_join, join_cps]
      clear l1 l8 ab et es
      induction cs with
      | nil => rfl
      | cons c r ih => rw [List.map_cons, List.flatMap_cons, ih]; rfl
    have el : (Txt.join "" (cs.map fun c => (⟨#[c]⟩ : Str))).length = cs.length := by
      show (Txt.join "" (cs.map fun c => (⟨#[c]⟩ : Str))).cps.toList.length = _
      rw [ej]
    exact ⟨by omega, by omega, by rw [ej]; exact ab⟩
  · show ((asS h (.lst _)).bind fun ys => (txts ys).bind fun ts => if (ts.map Str.length).sum + ts.length * Str.length "" ≤ 16777216 then some (PV.str (Txt.join "" ts)) else none) = _
    show ((txts (cs.map fun c => PV.str ⟨#[c]⟩)).bind fun ts => if (ts.map Str.length).sum + ts.length * Str.length "" ≤ 16777216 then some (PV.str (Txt.join "" ts)) else none) = _
    rw [et]
    have e0 : Str.length "" = 0 := by
      show (("" : Str)).cps.toList.length = 0
      rw [cps_ofString]; rfl
    show (if ((cs.map fun c => (⟨#[c]⟩ : Str)).map Str.length).sum + (cs.map fun c => (⟨#[c]⟩ : Str)).length * Str.length "" ≤ 16777216 then some (PV.str (Txt.join "" (cs.map fun c => (⟨#[c]⟩ : Str)))) else none) = _
    rw [es, e0, if_pos (by omega)]
def wordsL : List Str := ["done", "to", "mark", "forth", "back", "marks", "shown", "tally"]
theorem okn_of {x : String} (h1 : 1 ≤ x.toList.length) (h2 : x.toList.length ≤ 8) (h3 : (x.toList.map Char.toNat).all isL = true) : OkN (Str.ofString x) := by
  have e := cps_ofString x
  have el : (Str.ofString x).length = x.toList.length := by
    show (Str.ofString x).cps.toList.length = _
    rw [e, List.length_map]
  exact ⟨by omega, by omega, by rw [e]; exact fun c hc => of_decide_eq_true (List.all_eq_true.mp h3 c hc)⟩
theorem words_ok : ∀ x ∈ wordsL, OkN x := by
  intro x hx
  simp only [wordsL, List.mem_cons, List.not_mem_nil, or_false] at hx
  rcases hx with e | e | e | e | e | e | e | e <;> (subst e; exact okn_of (by decide) (by decide) (by decide))
theorem letters_len : letters.cps.toList.length = 26 := by
  show (Str.ofString "abcdefghijklmnopqrstuvwxyz").cps.toList.length = 26
  rw [cps_ofString]
  rfl
theorem ix_letter {i : Int} (h0 : 0 ≤ i) (h1 : i < 26) : ∃ c ∈ letters.cps.toList, ∀ h, evIx h (.str letters) (.int i) = some (.str ⟨#[c]⟩) := by
  obtain ⟨n, rfl⟩ := Int.eq_ofNat_of_zero_le h0
  have l := letters_len
  have hn : n < letters.cps.toList.length := by omega
  refine ⟨letters.cps.toList[n], List.getElem_mem hn, fun h => ?_⟩
  have hl : letters.length ≤ sizeLine := le_sz (by show letters.cps.toList.length ≤ _; omega)
  show (if letters.length ≤ sizeLine then (atI letters.cps.toList (n : Int)).map (fun c => PV.str ⟨#[c]⟩) else none) = _
  rw [if_pos hl, atI_nat, List.getElem?_eq_getElem hn]
  rfl
theorem ones_of : ∀ {ys : List PV}, (∀ y ∈ ys, ∃ c ∈ letters.cps.toList, y = .str ⟨#[c]⟩) → ∃ cs : List Nat, ys = cs.map (fun c => .str ⟨#[c]⟩) ∧ ∀ c ∈ cs, c ∈ letters.cps.toList
  | [], _ => ⟨[], rfl, fun _ h => nomatch h⟩
  | y :: r, h => by
    obtain ⟨c, hc, e⟩ := h y List.mem_cons_self
    obtain ⟨cs, e2, h2⟩ := ones_of fun z hz => h z (List.mem_cons_of_mem _ hz)
    refine ⟨c :: cs, by rw [e, e2]; rfl, fun d hd => ?_⟩
    rcases List.mem_cons.mp hd with q | q
    · rw [q]; exact hc
    · exact h2 d q
theorem r_name {st c : Nat} (L : LSt h st c) {names : List Str} (hn : ∀ x ∈ names, OkN x) (hl : names.length ≤ 1000) (hD : 2 ≤ D) : Dr st c h (RUN D 302 [.obj st, .lst (names.map .str)] h) fun v => ∃ x, v = .str x ∧ OkN x := by
  obtain ⟨D, rfl, h1⟩ := suc hD
  obtain ⟨k1, ha, e1, a1, b1, L1, S1⟩ := r_draw (D := D) L (z := 10) (by omega) (by omega) h1
  have en := fun h => ne_nil_strs (h := h) fun x hx => (hn x hx).strOk
  by_cases q : names.isEmpty = false ∧ k1 < 4
  · have l0 : 0 < names.length := by
      cases names with
      | nil => cases q.1
      | cons _ _ => exact Nat.succ_pos _
    obtain ⟨k2, hb, e2, a2, b2, L2, S2⟩ := r_draw (D := D) L1 (z := (names.length : Int)) (by omega) (by omega) h1
    obtain ⟨x, hx, ex⟩ := atI_strs names a2 (by omega)
    refine ⟨.str x, hb, ?_, ⟨x, rfl, hn x hx⟩, L2, S1.trans S2⟩
    simp [R__law_name, b__law_name, e1, en, q.1, q.2, e2, ex]
  · by_cases q4 : k1 = 4
    · subst q4
      obtain ⟨k2, hb, e2, a2, b2, L2, S2⟩ := r_draw (D := D) L1 (z := 8) (by omega) (by omega) h1
      obtain ⟨x, hx, ex⟩ := atI_strs wordsL a2 (by simp [wordsL]; omega)
      refine ⟨.str x, hb, ?_, ⟨x, rfl, words_ok x hx⟩, L2, S1.trans S2⟩
      simp only [wordsL, List.map_cons, List.map_nil] at ex
      cases hn' : names.isEmpty <;> simp [R__law_name, b__law_name, e1, en, hn', e2, ex]
    · obtain ⟨k2, hb, e2, a2, b2, L2, S2⟩ := r_draw (D := D) L1 (z := 8) (by omega) (by omega) h1
      have hr := rng1R_i (fs := ⟨[.val (.obj st), .val (.lst (names.map .str)), .val (.int k1), .val (.str letters), .un], hb⟩) (n := 1 + k2) (by omega)
      obtain ⟨ys, hd, e3, ⟨L3, S3⟩, l3, y3⟩ := cmpN_inv (turn := turnR (EV D) (E.ix (E.var 3) (E.call 301 (Es.cons (E.var 0) (Es.cons (E.int 26) Es.nil)))) (Tg.n 4) Ts.nil) (g := fun j : Nat => .int (0 + (j : Nat))) (sl := [.val (.obj st), .val (.lst (names.map .str)), .val (.int k1), .val (.str letters), .un])
        (I := fun h' => LSt h' st c ∧ Same hb h' [st, c]) (Q := fun y => ∃ c ∈ letters.cps.toList, y = .str ⟨#[c]⟩) (as := List.range (1 + k2).toNat) (acc := []) (hp := hb) ⟨L2, .refl⟩ (fun j _ hp ⟨Lp, Sp⟩ => by
          obtain ⟨k, hq, ek, ak, bk, Lk, Sk⟩ := r_draw (D := D) Lp (z := 26) (by omega) (by omega) h1
          obtain ⟨cc, hc, ec⟩ := ix_letter ak bk
          exact ⟨.str ⟨#[cc]⟩, _, hq, by simp [ek, ec]; rfl, ⟨cc, hc, rfl⟩, Lk, Sp.trans Sk⟩) (le_sz (by rw [List.length_nil, List.length_range]; omega))
      rw [← range0_map] at e3
      obtain ⟨cs, ey, hcs⟩ := ones_of y3
      rw [List.length_range] at l3
      have lcs : cs.length = ys.length := by rw [ey, List.length_map]
      obtain ⟨x, ox, ex⟩ := join_ok (h := hd) (cs := cs) (by omega) (by omega) hcs
      rw [← ey] at ex
      refine ⟨.str x, hd, ?_, ⟨x, rfl, ox⟩, L3, (S1.trans S2).trans S3⟩
      have q' : ¬ (names.isEmpty = false ∧ k1 < 4) := q
      have en2 : (Str.ofString "abcdefghijklmnopqrstuvwxyz") = letters := rfl
      simp at e3
      cases hn' : names.isEmpty with
      | true => simp [R__law_name, b__law_name, e1, en, hn', q4, e2, hr, en2, blk, wip, blind, e3, bmOk, ex]
      | false =>
        have q5 : ¬ k1 < 4 := fun z => q' ⟨hn', z⟩
        simp [R__law_name, b__law_name, e1, en, hn', q4, q5, e2, hr, en2, blk, wip, blind, e3, bmOk, ex]
end U
namespace U
open PySem L2
variable {D : Nat} {h : Hb} {st c : Nat}
theorem r_number (L : LSt h st c) (hD : 2 ≤ D) : Dr st c h (RUN D 303 [.obj st] h) fun v => ∃ i : Int, v = .int i := by
  obtain ⟨D, rfl, h1⟩ := suc hD
  obtain ⟨k1, ha, e1, a1, b1, L1, S1⟩ := r_draw (D := D) L (z := 6) (by omega) (by omega) h1
  by_cases q : k1 < 2
  · exact ⟨.int k1, ha, by simp [R__law_number, b__law_number, e1, q], ⟨k1, rfl⟩, L1, S1⟩
  · obtain ⟨k2, hb, e2, a2, b2, L2, S2⟩ := r_draw (D := D) L1 (z := 100) (by omega) (by omega) h1
    have LL : ∀ (as : List PV) (h0 : Hb) (i : Int) (s3 : Sl), LSt h0 st c → ∃ s3' h' i', forN (forB (EV D) (Tg.n 3) (Ss.cons (S.set 2 (E.bin BO.add (E.bin BO.mul (E.var 2) (E.int 10)) (E.call 301 (Es.cons (E.var 0) (Es.cons (E.int 10) Es.nil))))) Ss.nil)) as ⟨[.val (.obj st), .val (.int k1), .val (.int i), s3], h0⟩ =
        .ok .nx ⟨[.val (.obj st), .val (.int k1), .val (.int i'), s3'], h'⟩ ∧ LSt h' st c ∧ Same h0 h' [st, c] := by
      intro as
      induction as with
      | nil => intro h0 i s3 L0; exact ⟨s3, h0, i, rfl, L0, .refl⟩
      | cons a r ih =>
        intro h0 i s3 L0
        obtain ⟨k, hq, ek, ak, bk, Lk, Sk⟩ := r_draw (D := D) L0 (z := 10) (by omega) (by omega) h1
        obtain ⟨s3', h', i', e, L', S'⟩ := ih hq (i * 10 + k) (.val a) Lk
        refine ⟨s3', h', i', ?_, L', Sk.trans S'⟩
        have bm := bin_mul_ii (i := i) (j := 10) (.inr (by omega))
        rw [forN]
        simp [bm, ek, e]
    have hn : ∃ n : Int, 0 ≤ n ∧ n ≤ 38 ∧ ∀ h, evIx h (.lst [.int 0, .int 0, .int 1, .int 2, .int 38]) (.int (k1 - 1)) = some (.int n) := by
      have : k1 = 2 ∨ k1 = 3 ∨ k1 = 4 ∨ k1 = 5 := by omega
      rcases this with e | e | e | e <;> subst e
      · exact ⟨0, by omega, by omega, fun h => by simp⟩
      · exact ⟨1, by omega, by omega, fun h => by simp⟩
      · exact ⟨2, by omega, by omega, fun h => by simp⟩
      · exact ⟨38, by omega, by omega, fun h => by simp⟩
    obtain ⟨n, n0, n1, en⟩ := hn
    have hr := fun fs => rng1R_i (fs := fs) (n := n) (by omega)
    obtain ⟨s3', h', i', e3, L3, S3⟩ := LL (range0 n.toNat 0) hb k2 .un L2
    obtain ⟨k4, h4, e4, a4, b4, L4, S4⟩ := r_draw (D := D) L3 (z := 2) (by omega) (by omega) h1
    have : k4 = 0 ∨ k4 = 1 := by omega
    rcases this with z | z <;> subst z
    · have bm := bin_mul_ii (i := i') (j := 1) (.inr (by omega))
      exact ⟨.int (i' * 1), h4, by simp [R__law_number, b__law_number, e1, q, e2, en, hr, e3, e4, bm], ⟨_, rfl⟩, L4, ((S1.trans S2).trans S3).trans S4⟩
    · have bm := bin_mul_ii (i := i') (j := -1) (.inr (by omega))
      exact ⟨.int (i' * -1), h4, by simp [R__law_number, b__law_number, e1, q, e2, en, hr, e3, e4, bm], ⟨_, rfl⟩, L4, ((S1.trans S2).trans S3).trans S4⟩
/-- a told term of names -/
def TOf (names : List Str) (d : Nat) (v : PV) : Prop := ∃ t : Tm, v = t.told ∧ t.Ok ∧ t.In names ∧ t.depth ≤ d
theorem r_leaf (L : LSt h st c) {names : List Str} (hn : ∀ x ∈ names, OkN x) (hl : names.length ≤ 1000) (hD : 4 ≤ D) : Dr st c h (RUN D 304 [.obj st, .lst (names.map .str)] h) (TOf names 1) := by
  obtain ⟨D, rfl, h1⟩ := suc hD
  obtain ⟨k1, ha, e1, a1, b1, L1, S1⟩ := r_draw (D := D) L (z := 8) (by omega) (by omega) (by omega)
  have en := fun h => ne_nil_strs (h := h) fun x hx => (hn x hx).strOk
  by_cases q : names.isEmpty = false ∧ k1 < 5
  · have l0 : 0 < names.length := by
      cases names with
      | nil => cases q.1
      | cons _ _ => exact Nat.succ_pos _
    obtain ⟨k2, hb, e2, a2, b2, L2, S2⟩ := r_draw (D := D) L1 (z := (names.length : Int)) (by omega) (by omega) (by omega)
    obtain ⟨x, hx, ex⟩ := atI_strs names a2 (by omega)
    refine ⟨(Tm.name x).told, hb, ?_, ⟨.name x, rfl, hn x hx, hx, Nat.le_refl _⟩, L2, S1.trans S2⟩
    simp [R__law_leaf, b__law_leaf, e1, en, q.1, q.2, e2, ex, Tm.told]
  · by_cases q7 : k1 = 7
    · subst q7
      refine ⟨Tm.opn.told, ha, ?_, ⟨.opn, rfl, trivial, trivial, Nat.le_refl _⟩, L1, S1⟩
      cases hn' : names.isEmpty <;> simp [R__law_leaf, b__law_leaf, e1, en, hn', Tm.told]
    · obtain ⟨v, hb, e2, ⟨i, rfl⟩, L2, S2⟩ := r_number (D := D) L1 (by omega)
      refine ⟨(Tm.num i).told, hb, ?_, ⟨.num i, rfl, trivial, trivial, Nat.le_refl _⟩, L2, S1.trans S2⟩
      cases hn' : names.isEmpty with
      | true => simp [R__law_leaf, b__law_leaf, e1, en, hn', q7, e2, Tm.told]
      | false =>
        have q5 : ¬ k1 < 5 := fun z => q ⟨hn', z⟩
        simp [R__law_leaf, b__law_leaf, e1, en, hn', q5, q7, e2, Tm.told]
theorem TOf.mono {names : List Str} {d e : Nat} {v : PV} (h : TOf names d v) (l : d ≤ e) : TOf names e v := by
  obtain ⟨t, a, b, c, q⟩ := h
  exact ⟨t, a, b, c, by omega⟩
theorem told_of_in {names : List Str} {d : Nat} : ∀ {ys : List PV}, (∀ y ∈ ys, TOf names d y) → ∃ ts : List Tm, ys = ts.map Tm.told ∧ ∀ t ∈ ts, t.Ok ∧ t.In names ∧ t.depth ≤ d
  | [], _ => ⟨[], rfl, fun _ h => nomatch h⟩
  | y :: r, h => by
    obtain ⟨t, e, q⟩ := h y List.mem_cons_self
    obtain ⟨ts, e2, h2⟩ := told_of_in fun z hz => h z (List.mem_cons_of_mem _ hz)
    refine ⟨t :: ts, by rw [e, e2]; rfl, fun u hu => ?_⟩
    rcases List.mem_cons.mp hu with z | z
    · rw [z]; exact q
    · exact h2 u z
theorem sign_ix {k : Int} (h0 : 0 ≤ k) (h1 : k < 3) : ∃ s, OkS s ∧ ∀ h, evIx h (.lst [.str "+", .str "-", .str "<"]) (.int k) = some (.str s) := by
  have : k = 0 ∨ k = 1 ∨ k = 2 := by omega
  rcases this with e | e | e <;> subst e
  · exact ⟨"+", .inl rfl, fun h => by simp⟩
  · exact ⟨"-", .inr (.inl rfl), fun h => by simp⟩
  · exact ⟨"<", .inr (.inr rfl), fun h => by simp⟩
theorem r_any : ∀ {n : Nat} {D : Nat} {h : Hb} (L : LSt h st c) {names : List Str}, (∀ x ∈ names, OkN x) → names.length + n ≤ 100 → n + 6 ≤ D → Dr st c h (RUN D 305 [.obj st, .lst (names.map .str), .int n] h) (TOf names (n + 1)) := by
  intro n
  induction n with
  | zero =>
    intro D h L names hn hl hD
    obtain ⟨D, rfl, h1⟩ := suc hD
    obtain ⟨k1, ha, e1, a1, b1, L1, S1⟩ := r_draw (D := D) L (z := 12) (by omega) (by omega) (by omega)
    obtain ⟨v, hb, e2, t2, L2, S2⟩ := r_leaf (D := D) L1 hn (by omega) (by omega)
    exact ⟨v, hb, by simp [R__law_any, b__law_any, e1, e2], t2, L2, S1.trans S2⟩
  | succ n ih =>
    intro D h L names hn hl hD
    obtain ⟨D, rfl, h1⟩ := suc hD
    have eD : n + 6 ≤ D := by omega
    obtain ⟨k1, ha, e1, a1, b1, L1, S1⟩ := r_draw (D := D) L (z := 12) (by omega) (by omega) (by omega)
    by_cases q2 : ((n + 1 : Nat) : Int) < 2 ∨ k1 < 3
    · obtain ⟨v, hb, e2, t2, L2, S2⟩ := r_leaf (D := D) L1 hn (by omega) (by omega)
      refine ⟨v, hb, ?_, t2.mono (by omega), L2, S1.trans S2⟩
      by_cases q3 : ((n + 1 : Nat) : Int) < 2
      · have q3 : (n : Int) + 1 < 2 := by omega
        simp [R__law_any, b__law_any, e1, e2, q3]
      · have q4 : k1 < 3 := by omega
        have q3 : ¬ (n : Int) + 1 < 2 := by omega
        simp [R__law_any, b__law_any, e1, e2, q3, q4]
    · have q3 : ¬ ((n + 1 : Nat) : Int) < 2 := fun z => q2 (.inl z)
      have q4 : ¬ k1 < 3 := fun z => q2 (.inr z)
      have q3 : ¬ (n : Int) + 1 < 2 := by omega
      by_cases q6 : k1 < 6
      · obtain ⟨_, hb, e2, ⟨x, rfl, ox⟩, L2, S2⟩ := r_name (D := D) L1 hn (by omega) (by omega)
        obtain ⟨v, hc, e3, ⟨t, rfl, t1, t2, t3⟩, L3, S3⟩ := ih (D := D) L2 (names := names ++ [x]) (fun y hy => by rcases List.mem_append.mp hy with z | z; exact hn y z; rw [List.mem_singleton.mp z]; exact ox) (by rw [List.length_append]; simp only [List.length_cons, List.length_nil]; omega) eD
        have ec : ∀ h, catO h (.lst (names.map .str)) (.lst [.str x]) = some ((names ++ [x]).map .str) := fun h => by
          show (asL h (.lst (names.map .str))).bind (fun xs => (asL h (.lst [.str x])).bind fun ys => if xs.length + ys.length ≤ sizeLine then some (xs ++ ys) else none) = _
          rw [asL_lst, asL_lst]
          show (if _ ≤ sizeLine then some (names.map PV.str ++ [PV.str x]) else none) = _
          rw [if_pos (le_sz (by simp only [List.length_map, List.length_cons, List.length_nil]; omega)), List.map_append]
          rfl
        have tin : t.In (x :: names) := t2.mono fun y hy => by
          rcases List.mem_append.mp hy with z | z
          · exact List.mem_cons_of_mem _ z
          · rw [List.mem_singleton.mp z]; exact List.mem_cons_self
        have : k1 = 3 ∨ k1 = 4 ∨ k1 = 5 := by omega
        simp only [List.map_append, List.map_cons, List.map_nil] at ec e3
        clear q2
        rcases this with z | z | z <;> subst z
        · exact ⟨(Tm.mk x t).told, hc, by simp [R__law_any, b__law_any, e1, q3, e2, ec, e3, Tm.told], ⟨.mk x t, rfl, ⟨ox, t1⟩, tin, by simp only [Tm.depth]; omega⟩, L3, (S1.trans S2).trans S3⟩
        · exact ⟨(Tm.mk x t).told, hc, by simp [R__law_any, b__law_any, e1, q3, e2, ec, e3, Tm.told], ⟨.mk x t, rfl, ⟨ox, t1⟩, tin, by simp only [Tm.depth]; omega⟩, L3, (S1.trans S2).trans S3⟩
        · exact ⟨(Tm.again x t).told, hc, by simp [R__law_any, b__law_any, e1, q3, e2, ec, e3, Tm.told], ⟨.again x t, rfl, ⟨ox, t1⟩, tin, by simp only [Tm.depth]; omega⟩, L3, (S1.trans S2).trans S3⟩
      · by_cases q9 : k1 < 9
        · obtain ⟨v, hb, e2, ⟨t, rfl, t1, t2, t3⟩, L2, S2⟩ := ih (D := D) L1 (names := names) hn (by omega) eD
          obtain ⟨v, hc, e3, ⟨u, rfl, u1, u2, u3⟩, L3, S3⟩ := ih (D := D) L2 (names := names) hn (by omega) eD
          exact ⟨(Tm.give t u).told, hc, by simp [R__law_any, b__law_any, e1, q3, q4, q6, q9, e2, e3, Tm.told], ⟨.give t u, rfl, ⟨t1, u1⟩, ⟨t2, u2⟩, by simp only [Tm.depth]; omega⟩, L3, (S1.trans S2).trans S3⟩
        · by_cases q11 : k1 < 11
          · obtain ⟨ks, hs, es, as, bs, Ls, Ss⟩ := r_draw (D := D) L1 (z := 3) (by omega) (by omega) (by omega)
            obtain ⟨s, os, ix⟩ := sign_ix as bs
            obtain ⟨v, hb, e2, ⟨t, rfl, t1, t2, t3⟩, L2, S2⟩ := ih (D := D) Ls (names := names) hn (by omega) eD
            obtain ⟨v, hc, e3, ⟨u, rfl, u1, u2, u3⟩, L3, S3⟩ := ih (D := D) L2 (names := names) hn (by omega) eD
            exact ⟨(Tm.sum s t u).told, hc, by simp [R__law_any, b__law_any, e1, q3, q4, q6, q9, q11, es, ix, e2, e3, Tm.told], ⟨.sum s t u, rfl, ⟨os, t1, u1⟩, ⟨t2, u2⟩, by simp only [Tm.depth]; omega⟩, L3, ((S1.trans Ss).trans S2).trans S3⟩
          · have hr := fun fs => rng1R_i (fs := fs) (n := 3) (by omega)
            obtain ⟨ys, hd, e3, ⟨L3, S3⟩, l3, y3⟩ := cmpN_inv (turn := turnR (EV D) (E.call 305 (Es.cons (E.var 0) (Es.cons (E.var 1) (Es.cons (E.bin BO.sub (E.var 2) (E.int 1)) Es.nil)))) (Tg.n 7) Ts.nil) (g := fun j : Nat => .int (0 + (j : Nat)))
              (sl := [.val (.obj st), .val (.lst (names.map .str)), .val (.int ((n : Int) + 1)), .val (.int k1), .un, .un, .un, .un])
              (I := fun h' => LSt h' st c ∧ Same ha h' [st, c]) (Q := TOf names (n + 1)) (as := List.range 3) (acc := []) (hp := ha) ⟨L1, .refl⟩ (fun j _ hp ⟨Lp, Sp⟩ => by
                obtain ⟨v, hq, ek, tk, Lk, Sk⟩ := ih (D := D) Lp (names := names) hn (by omega) eD
                exact ⟨v, _, hq, by simp [ek]; rfl, tk, Lk, Sp.trans Sk⟩) (le_sz (by simp))
            rw [← range0_map] at e3
            obtain ⟨ts, ey, hts⟩ := told_of_in y3
            rw [List.length_range, ey, List.length_map] at l3
            match ts, l3, ey, hts with
            | [t, u, w], _, ey, hts =>
              have ht := hts t (by simp)
              have hu := hts u (by simp)
              have hw := hts w (by simp)
              subst ey
              simp at e3
              exact ⟨(Tm.cho t u w).told, hd, by simp [R__law_any, b__law_any, e1, q3, q4, q6, q9, q11, hr, blk, wip, blind, e3, Tm.told], ⟨.cho t u w, rfl, ⟨ht.1, hu.1, hw.1⟩, ⟨ht.2.1, hu.2.1, hw.2.1⟩, by simp only [Tm.depth]; omega⟩, L3, S1.trans S3⟩
theorem In_name {x : Str} {xs : List Str} (h : x ∈ xs) : (Tm.name x).In xs := h
theorem r_doubled {x y : Str} (ox : OkN x) (oy : OkN y) {n : Nat} (hn : n ≤ 20) (hD : 1 ≤ D) : ∃ t : Tm, RUN D 306 [.str x, .str y, .int n] h = .ok t.told h ∧ t.Ok ∧ t.In [] ∧ t.depth ≤ 2 * n + 4 := by
  obtain ⟨D, rfl, h1⟩ := suc hD
  have ixp : ∀ (z : Nat), ∃ w, (w = x ∨ w = y) ∧ (∃ w', (w' = x ∨ w' = y) ∧ [w, w'].length = 2 ∧ (∀ v, v = x ∨ v = y → v = w ∨ v = w') ∧ (∀ h, evIx h (.lst [.str x, .str y]) (.int (((z : Int) + 1) % 2)) = some (.str w'))) ∧ ∀ h, evIx h (.lst [.str x, .str y]) (.int ((z : Int) % 2)) = some (.str w) := by
    intro z
    have : (z : Int) % 2 = 0 ∨ (z : Int) % 2 = 1 := by omega
    rcases this with e | e
    · have e2 : ((z : Int) + 1) % 2 = 1 := by omega
      rw [e, e2]
      exact ⟨x, .inl rfl, ⟨y, .inr rfl, rfl, fun v hv => hv, fun h => by simp⟩, fun h => by simp⟩
    · have e2 : ((z : Int) + 1) % 2 = 0 := by omega
      rw [e, e2]
      exact ⟨y, .inr rfl, ⟨x, .inl rfl, rfl, fun v hv => hv.symm, fun h => by simp⟩, fun h => by simp⟩
  have okxy : ∀ {w}, w = x ∨ w = y → OkN w := fun hw => by rcases hw with e | e <;> rw [e]; exact ox; exact oy
  have L : ∀ (m i : Nat) (t : Tm) (s5 s6 : Sl), t.Ok → (∃ w, (∀ h, evIx h (.lst [.str x, .str y]) (.int ((i : Int) % 2)) = some (.str w)) ∧ t.In [w]) → ∃ (u : Tm) (s5' s6' : Sl), forN (forB (EV D) (Tg.n 5) (Ss.cons (S.set 6 (E.tup (Es.cons (E.str "name") (Es.cons (E.ix (E.var 3) (E.bin BO.mod (E.bin BO.add (E.var 5) (E.int 1)) (E.int 2))) Es.nil))))
        (Ss.cons (S.set 4 (E.tup (Es.cons (E.str "give") (Es.cons (E.tup (Es.cons (E.str "maker") (Es.cons (E.ix (E.var 3) (E.bin BO.mod (E.var 5) (E.int 2))) (Es.cons (E.var 4) Es.nil)))) (Es.cons (E.tup (Es.cons (E.str "sum") (Es.cons (E.str "+") (Es.cons (E.var 6) (Es.cons (E.var 6) Es.nil))))) Es.nil))))) Ss.nil))) (range0 m i)
      ⟨[.val (.str x), .val (.str y), .val (.int n), .val (.lst [.str x, .str y]), .val t.told, s5, s6], h⟩ = .ok .nx ⟨[.val (.str x), .val (.str y), .val (.int n), .val (.lst [.str x, .str y]), .val u.told, s5', s6'], h⟩ ∧ u.Ok ∧ (∃ w, (∀ h, evIx h (.lst [.str x, .str y]) (.int (((i + m : Nat) : Int) % 2)) = some (.str w)) ∧ u.In [w]) ∧ u.depth ≤ t.depth + 2 * m + 1 := by
    intro m
    induction m with
    | zero => intro i t s5 s6 ot it; exact ⟨t, s5, s6, rfl, ot, it, by omega⟩
    | succ m ih =>
      intro i t s5 s6 ot ⟨w0, w1, w2⟩
      obtain ⟨w, hw, ⟨w', hw', _, _, iw'⟩, iw⟩ := ixp i
      have : w0 = w := by
        have e1 := w1 []
        rw [iw []] at e1
        injection e1 with e2
        injection e2 with e3
        exact e3.symm
      subst this
      have b1 := bin_mod_ii (i := (i : Int)) (j := 2) (by omega)
      have b2 := bin_mod_ii (i := (i : Int) + 1) (j := 2) (by omega)
      have ec : (((i + 1 : Nat) : Int)) = (i : Int) + 1 := by omega
      obtain ⟨u, s5', s6', e, ou, iu, du⟩ := ih (i + 1) (.give (.mk w0 t) (.sum "+" (.name w') (.name w'))) (.val (.int i)) (.val (Tm.name w').told) ⟨⟨okxy hw, ot⟩, .inl rfl, okxy hw', okxy hw'⟩ ⟨w', by rw [ec]; exact iw', w2.mono (fun z hz => by simp at hz; simp [hz]), In_name (by simp), In_name (by simp)⟩
      refine ⟨u, s5', s6', ?_, ou, ?_, ?_⟩
      · rw [range0, forN]
        simp only [Tm.told] at e
        rw [ec] at e
        simp [b1, b2, iw, iw', e]
      · rw [show i + (m + 1) = i + 1 + m by omega]; exact iu
      · simp only [Tm.depth] at du
        have : 1 ≤ t.depth := by cases t <;> simp [Tm.depth]
        omega
  have h62 : ∀ z : Int, 0 ≤ z → z ≤ 20 → -(2 ^ 62) ≤ z ∧ z < 2 ^ 62 := fun z a b => by omega
  have hr := fun fs => rng1R_i (fs := fs) (n := (n : Int)) (h62 _ (Int.natCast_nonneg n) (Int.ofNat_le.mpr hn))
  obtain ⟨u, s5, s6, e, ou, ⟨w, w1, w2⟩, du⟩ := L n 0 (.name x) .un .un ox ⟨x, fun h => by simp, In_name (by simp)⟩
  obtain ⟨w', hw', _, iw⟩ := ixp n
  rw [Nat.zero_add] at w1
  have : w = w' := by
    have e1 := w1 []
    rw [iw []] at e1
    injection e1 with e2
    injection e2 with e3
    exact e3.symm
  subst this
  have b1 := bin_mod_ii (i := (n : Int)) (j := 2) (by omega)
  refine ⟨.give (.mk w u) (.num 1), ?_, ⟨⟨okxy hw', ou⟩, trivial⟩, ⟨w2, trivial⟩, ?_⟩
  · simp only [Tm.told] at e
    simp at e
    simp [R__law_doubled, b__law_doubled, hr, e, b1, iw, Tm.told]
  · simp only [Tm.depth] at du ⊢
    omega
end U
namespace U
open PySem L2
variable {D : Nat} {h : Hb} {st c : Nat}
theorem OkN.sz {x : Str} (o : OkN x) : x.length ≤ sizeLine := le_sz (by have := o.hi; omega)
theorem cps_len (x : Str) : x.cps.toList.length = x.length := rfl
/-- the other name -/
theorem other_name {x : Str} (o : OkN x) : ∃ c y, OkN y ∧ (∀ h, evIx h (.str x) (.int 0) = some (.str ⟨#[c]⟩)) ∧ PyData.strOk ⟨#[c]⟩ = true ∧ evSl (.str x) (some 1) none = some (.str (cutS x (some 1) none)) ∧
    evBin .add (.str (if (⟨#[c]⟩ : Str) = "a" then "b" else "a")) (.str (cutS x (some 1) none)) = some (.str y) := by
  have lo := o.lo
  have hi := o.hi
  have hc : ∃ c r, x.cps.toList = c :: r := by
    cases e : x.cps.toList with
    | nil => have := cps_len x; rw [e] at this; simp at this; omega
    | cons c r => exact ⟨c, r, rfl⟩
  obtain ⟨c, r, e⟩ := hc
  have lr : r.length + 1 = x.length := by have := cps_len x; rw [e] at this; simpa using this
  have hab : ∀ d ∈ c :: r, d ∈ letters.cps.toList := by rw [← e]; exact o.ab
  have e1 : HT.sIx x.length 0 (some 1) = 1 := by
    have := HT.sIx_nat x.length 0 1
    rw [show ((1 : Nat) : Int) = 1 from rfl] at this
    rw [this]; omega
  have ecut : (cutS x (some 1) none).cps.toList = r := by
    show (((x.cps.toList.drop (HT.sIx x.length 0 (some 1))).take (HT.sIx x.length x.length none - HT.sIx x.length 0 (some 1))).toArray).toList = r
    rw [List.toList_toArray, HT.sIx_none, e1, e, List.drop_succ_cons, List.drop_zero, List.take_of_length_le (by omega)]
  have lcut : (cutS x (some 1) none).length = r.length := by rw [← cps_len, ecut]
  have l1 : ∀ z : String, z.toList.length = 1 → (Str.ofString z).length = 1 := fun z hz => by rw [← cps_len, cps_ofString, List.length_map, hz]
  have okh : ∀ z : String, z.toList.length = 1 → (z.toList.map Char.toNat).all isL = true → OkN ((Str.ofString z) ++ cutS x (some 1) none) := fun z hz hl => by
    have el : ((Str.ofString z) ++ cutS x (some 1) none).length = x.length := by rw [Str.length_append, l1 z hz, lcut]; omega
    refine ⟨by omega, by omega, fun d hd => ?_⟩
    have ea : ((Str.ofString z) ++ cutS x (some 1) none).cps.toList = (Str.ofString z).cps.toList ++ (cutS x (some 1) none).cps.toList := Array.toList_append
    rw [ea, ecut, cps_ofString] at hd
    rcases List.mem_append.mp hd with q | q
    · exact of_decide_eq_true (List.all_eq_true.mp hl d q)
    · exact hab d (List.mem_cons_of_mem _ q)
  refine ⟨c, (if (⟨#[c]⟩ : Str) = "a" then ("b" : Str) else "a") ++ cutS x (some 1) none, ?_, fun h => ?_, ?_, ?_, ?_⟩
  · split
    · exact okh "b" (by decide) (by decide)
    · exact okh "a" (by decide) (by decide)
  · show (if x.length ≤ sizeLine then (atI x.cps.toList 0).map (fun c => PV.str ⟨#[c]⟩) else none) = _
    rw [if_pos o.sz, atI_0, e]
    rfl
  · have q : ∀ d ∈ letters.cps.toList, d < 0x110000 := by decide
    show (#[c] : Array Nat).all (· < 0x110000) = true
    rw [← Array.all_toList]
    show (decide (c < 0x110000) && true) = true
    rw [decide_eq_true (q c (hab c List.mem_cons_self))]
    rfl
  · show (if x.length ≤ sizeLine then some (PV.str (cutS x (some 1) none)) else none) = _
    rw [if_pos o.sz]
  · refine bin_add_ss ?_
    have : (if (⟨#[c]⟩ : Str) = "a" then ("b" : Str) else "a").length = 1 := by
      split
      · exact l1 "b" (by decide)
      · exact l1 "a" (by decide)
    rw [this, lcut]
    exact le_sz (by omega)
theorem Tm.In.up {t : Tm} {xs : List Str} (h : t.In []) : t.In xs := h.mono (fun y hy => by cases hy)
theorem r_term (L : LSt h st c) (hD : 20 ≤ D) : Dr st c h (RUN D 307 [.obj st] h) fun v => ∃ t : Tm, v = t.told ∧ t.Ok ∧ t.In [] ∧ t.depth ≤ 50 := by
  obtain ⟨D, rfl, h1⟩ := suc hD
  obtain ⟨k1, ha, e1, a1, b1, L1, S1⟩ := r_draw (D := D) L (z := 9) (by omega) (by omega) (by omega)
  obtain ⟨_, hb, e2, ⟨x, rfl, ox⟩, L2, S2⟩ := r_name (D := D) L1 (names := []) (fun _ h => nomatch h) (by simp) (by omega)
  obtain ⟨cc, y, oy, ix, so, sl, ea⟩ := other_name ox
  obtain ⟨k3, hc, e3, a3, b3, L3, S3⟩ := r_draw (D := D) L2 (z := 3) (by omega) (by omega) (by omega)
  obtain ⟨s, os, is⟩ := sign_ix a3 b3
  have S123 := (S1.trans S2).trans S3
  simp only [List.map_nil] at e2
  have hpre : ∀ (rest : Ss), evSs (EV D) (Ss.cons (S.set 1 (E.call 301 (Es.cons (E.var 0) (Es.cons (E.int 9) Es.nil)))) (Ss.cons (S.set 2 (E.call 302 (Es.cons (E.var 0) (Es.cons (E.lst (LE.disp Es.nil)) Es.nil))))
      (Ss.cons (S.set 3 (E.bin BO.add (E.ifx (T.cmp CO.eq (E.ix (E.var 2) (E.int 0)) (E.str "a")) (E.str "b") (E.str "a")) (E.sl (E.var 2) (O.e (E.int 1)) O.n)))
      (Ss.cons (S.set 4 (E.ix (E.lst (LE.disp (Es.cons (E.str "+") (Es.cons (E.str "-") (Es.cons (E.str "<") Es.nil))))) (E.call 301 (Es.cons (E.var 0) (Es.cons (E.int 3) Es.nil))))) rest))))
      ⟨[.val (.obj st), .un, .un, .un, .un, .un, .un, .un], h⟩ = evSs (EV D) rest ⟨[.val (.obj st), .val (.int k1), .val (.str x), .val (.str y), .val (.str s), .un, .un, .un], hc⟩ := by
    intro rest
    by_cases q : (⟨#[cc]⟩ : Str) = "a"
    · rw [if_pos q] at ea
      simp [e1, e2, ix, so, q, sl, ea, e3, is]
    · rw [if_neg q] at ea
      simp [e1, e2, ix, so, q, sl, ea, e3, is]
  rw [R__law_term]
  unfold b__law_term
  rw [hpre]
  by_cases q2 : k1 < 2
  · obtain ⟨_, h4, e4, ⟨i4, rfl⟩, L4, S4⟩ := r_number (D := D) L3 (by omega)
    obtain ⟨_, h5, e5, ⟨i5, rfl⟩, L5, S5⟩ := r_number (D := D) L4 (by omega)
    obtain ⟨k6, h6, e6, a6, b6, L6, S6⟩ := r_draw (D := D) L5 (z := 4) (by omega) (by omega) (by omega)
    refine ⟨(Tm.give (.again x (.mk y (.cho (.name y) (.num i5) (.sum s (.num i4) (.give (.name x) (.sum "-" (.name y) (.num 1))))))) (.num k6)).told, h6, ?_, ⟨_, rfl, ?_, ?_, ?_⟩, L6, ((S123.trans S4).trans S5).trans S6⟩
    · simp [q2, e4, e5, e6, Tm.told]
    · exact ⟨⟨ox, oy, oy, trivial, os, trivial, ox, .inr (.inl rfl), oy, trivial⟩, trivial⟩
    · simp [Tm.In]
    · simp [Tm.depth]
  · by_cases q3 : k1 = 2
    · refine ⟨(Tm.again x (.name x)).told, hc, ?_, ⟨_, rfl, ⟨ox, ox⟩, by simp [Tm.In], by simp [Tm.depth]⟩, L3, S123⟩
      simp [q3, Tm.told]
    · by_cases q4 : k1 = 3
      · refine ⟨(Tm.again x (.sum s (.num 1) (.name x))).told, hc, ?_, ⟨_, rfl, ⟨ox, os, trivial, ox⟩, by simp [Tm.In], by simp [Tm.depth]⟩, L3, S123⟩
        simp [q4, Tm.told]
      · by_cases q8 : k1 = 8
        · obtain ⟨k4, h4, e4, a4, b4, L4, S4⟩ := r_draw (D := D) L3 (z := 6) (by omega) (by omega) (by omega)
          obtain ⟨m, hm⟩ := Int.eq_ofNat_of_zero_le (show 0 ≤ 6 + k4 by omega)
          obtain ⟨t, e5, t1, t2, t3⟩ := r_doubled (D := D) (h := h4) ox oy (n := m) (by omega) (by omega)
          rw [← hm] at e5
          refine ⟨t.told, h4, ?_, ⟨t, rfl, t1, t2, by omega⟩, L4, S123.trans S4⟩
          simp [q8, e4, e5]
        · by_cases q5 : k1 = 4
          · obtain ⟨v, h4, e4, ⟨t, rfl, t1, t2, t3⟩, L4, S4⟩ := r_any (n := 5) (D := D) L3 (names := []) (fun _ h => nomatch h) (by simp) (by omega)
            simp at e4
            refine ⟨t.told, h4, ?_, ⟨t, rfl, t1, t2, by omega⟩, L4, S123.trans S4⟩
            simp [q5, e4]
          · obtain ⟨v, h4, e4, ⟨t, rfl, t1, t2, t3⟩, L4, S4⟩ := r_any (n := 4) (D := D) L3 (names := [x, x]) (fun y hy => by simp at hy; rw [hy]; exact ox) (by simp) (by omega)
            obtain ⟨v, h5, e5, ⟨u, rfl, u1, u2, u3⟩, L5, S5⟩ := r_any (n := 4) (D := D) L4 (names := []) (fun _ h => nomatch h) (by simp) (by omega)
            simp at e4 e5
            have tin : ∀ {ys : List Str}, x ∈ ys → t.In ys := fun hx => t2.mono fun z hz => by simp at hz; rw [hz]; exact hx
            by_cases q6 : k1 = 5
            · refine ⟨(Tm.give (.mk x (.sum s (.name x) (.give (.mk y (.sum s (.name y) t)) t))) u).told, h5, ?_, ⟨_, rfl, ?_, ?_, ?_⟩, L5, (S123.trans S4).trans S5⟩
              · simp [q6, e4, e5, Tm.told]
              · exact ⟨⟨ox, os, ox, ⟨oy, os, oy, t1⟩, t1⟩, u1⟩
              · exact ⟨⟨In_name (by simp), ⟨⟨In_name (by simp), tin (by simp)⟩, tin (by simp)⟩⟩, u2⟩
              · simp only [Tm.depth]; omega
            · refine ⟨(Tm.give (.mk x t) u).told, h5, ?_, ⟨_, rfl, ⟨⟨ox, t1⟩, u1⟩, ⟨tin (by simp), u2⟩, by simp only [Tm.depth]; omega⟩, L5, (S123.trans S4).trans S5⟩
              simp [q2, q3, q4, q8, q5, q6, e4, e5, Tm.told]
/-- the law's state from a script -/
theorem r_state (ns : List Int) (hl : ns.length ≤ 1000) (hD : 1 ≤ D) : ∃ st c h', RUN D 300 [.lst (ns.map .int)] [] = .ok (.obj st) h' ∧ LSt h' st c := by
  obtain ⟨D, rfl, h1⟩ := suc hD
  have hc : cmpN (turnR (EV D) (E.bf BF.abs (Es.cons (E.var 2) Es.nil)) (Tg.n 2) Ts.nil) (ns.map .int) [] [.val (.lst (ns.map .int)), .un, .un] [] = .ok (ns.map fun i => .int (if i < 0 then -i else i)) [] := by
    refine (cmpN_map (f := fun i : Int => .int (if i < 0 then -i else i)) (fun i hi => ⟨_, by simp; rfl⟩) ?_).trans (by rw [List.nil_append])
    exact le_sz (by simp only [List.length_nil]; omega)
  have eqn : ∀ h : Hb, h[0]? = some (.lst (ns.map fun i => .int (if i < 0 then -i else i))) → evCmp .eq h (.obj 0) (.lst []) = some ns.isEmpty := by
    intro h e
    have th : thaw h (.obj 0) = .lst (ns.map fun i => .int (if i < 0 then -i else i)) := by
      unfold thaw
      rw [asL_obj e]
    have ad : asD h (.obj 0) = none := by
      unfold asD
      dsimp only
      rw [e]
    have canl : ∀ l : List Int, PyData.canLayAll0 (toDs (l.map fun i => .int (if i < 0 then -i else i))) = true ∧ PyData.depthAll (toDs (l.map fun i => .int (if i < 0 then -i else i))) = 0 := by
      intro l
      induction l with
      | nil => exact ⟨rfl, rfl⟩
      | cons i r ih =>
        refine ⟨?_, ?_⟩
        · show (true && PyData.canLayAll0 _) = true
          rw [ih.1]; rfl
        · show max 0 (PyData.depthAll _) = 0
          rw [ih.2]; rfl
    have pl : plain (.lst (ns.map fun i => .int (if i < 0 then -i else i))) = true := by
      show (PyData.canLayAll0 _ && decide (PyData.depthAll _ + 1 ≤ 64)) = true
      rw [(canl ns).1, (canl ns).2]
      rfl
    show evEq h (.obj 0) (.lst []) = _
    rw [evEq_plain (h := h) (x := .obj 0) (y := .lst []) ad (by rw [th]; exact pl) (show plain (.lst []) = true by decide), th]
    cases ns <;> rfl
  by_cases q : ns = []
  · subst q
    refine ⟨2, 1, [.lst [], .lst [.int 1], .lst [.obj 1, .int 0, .int 1]], ?_, [1], 0, 1, rfl, rfl, by omega, by simp, by omega, by omega, by omega⟩
    simp only [List.map_nil] at hc eqn
    simp [R__law_state, b__law_state, blk, wip, blind, hc, newO, eqn]
  · refine ⟨1, 0, [.lst (ns.map fun i => .int (if i < 0 then -i else i)), .lst [.obj 0, .int 0, .int 1]], ?_, ns.map fun i => if i < 0 then -i else i, 0, 1, rfl, ?_, by omega, ?_, by omega, by omega, by omega⟩
    · have qe : ns.isEmpty = false := by cases ns with | nil => exact absurd rfl q | cons _ _ => rfl
      simp [R__law_state, b__law_state, blk, wip, blind, hc, newO, eqn, qe]
    · simp
    · rw [List.length_map]
      exact List.length_pos_iff.mpr q
end U
namespace U
open PySem L2
variable {D : Nat} {h : Hb} {st c : Nat}
theorem app_set (h l : Hb) (i : Nat) (o : HB) : (h ++ l).set (h.length + i) o = h ++ l.set i o := by
  rw [List.set_append_right _ _ (by omega)]
  congr 2
  omega
theorem app_get (h l : Hb) (i : Nat) : (h ++ l)[h.length + i]? = l[i]? := by
  rw [List.getElem?_append_right (by omega)]
  congr 1
  omega
noncomputable def newBench (h : Hb) (t : Tm) : Hb := h ++ [.ins 40 (benchF t h.length (h.length + 1) (h.length + 2) (h.length + 3) 0), .lst (statesL (first t) 0), .lst [], .dic []]
theorem r_binit {t : Tm} (cl : Cl0 t) (hD : 70 ≤ D) : RUN D 219 [.obj h.length, t.v] (h ++ [.ins 40 []]) = .ok .non (newBench h t) := by
  obtain ⟨D, rfl, h1⟩ := suc hD
  have e1 := fun h => r_first (h := h) (D := D) cl (by omega)
  have g0 : ∀ l : Hb, (h ++ l)[h.length]? = l[0]? := fun l => app_get h l 0
  have s0 : ∀ (l : Hb) (o : HB), (h ++ l).set h.length o = h ++ l.set 0 o := fun l o => app_set h l 0 o
  have pf : ∀ (sl : List Sl) (fl : List (Nat × PV)) (l : Hb) (k : Nat) (y : PV), fl.length < 900 → k ∈ [32, 37, 38, 39, 40] → putF' tab (.obj h.length) k y ⟨sl, h ++ .ins 40 fl :: l⟩ = .ok .nx ⟨sl, h ++ .ins 40 (fPut fl k y) :: l⟩ := fun sl fl l k y hl hk => by
    rw [putF_obj (by rw [g0]; rfl) hl hk, s0]
    rfl
  simp [R_Bench_init, b_Bench_init, pf, e1, newO, fPut]
  simp [newBench, benchF, statesL, St.go]
theorem mkH_bench {t : Tm} (cl : Cl0 t) (hD : 72 ≤ D) (sl : List Sl) : mkH (EV D) 40 [t.v] ⟨sl, h⟩ = .ok (.obj h.length) ⟨sl, newBench h t⟩ := by
  have e := r_binit (h := h) (D := D - 1) cl (by omega)
  have d : dft tab 219 [.obj h.length, t.v] = [.obj h.length, t.v] := dft_nil tf_219 rfl _
  unfold mkH
  show (match t_cls 40 with
  | some cl => if cl.exc = true then R.no else match cl.froz, cl.init with
    | false, some f => match plainFn tab f with
      | true => match RUN (D - 1) f (dft tab f (.obj h.length :: [t.v])) (h ++ [HB.ins 40 []]) with
        | .ok .non h' => R.ok (PV.obj h.length) (FS.mk sl h')
        | .ok _ _ => R.no
        | .ex d ws h' => R.ex d ws (FS.mk sl h')
        | .no => R.no
      | false => R.no
    | _, _ => R.no
  | none => R.no) = _
  rw [tc_40]
  show (match plainFn tab 219 with
      | true => match RUN (D - 1) 219 (dft tab 219 (.obj h.length :: [t.v])) (h ++ [HB.ins 40 []]) with
        | .ok .non h' => R.ok (PV.obj h.length) (FS.mk sl h')
        | .ok _ _ => R.no
        | .ex d ws h' => R.ex d ws (FS.mk sl h')
        | .no => R.no
      | false => R.no) = _
  rw [pf_Bench_init, d, e]
theorem newBench_at {t : Tm} (cl : Cl0 t) : BAt (newBench h t) h.length (h.length + 1) (h.length + 2) (h.length + 3) t 0 0 where
  hb := app_get h _ 0
  hc := app_get h _ 1
  he := app_get h _ 2
  bc := by omega
  be := by omega
  ce := by omega
  fc := by omega
  cl := cl
  g := fun m hm => absurd hm (Nat.not_lt_zero _)
  le := Nat.le_refl _
  n3 := by omega
theorem newBench_old {t : Tm} {a : Nat} {o : HB} (e : h[a]? = some o) : (newBench h t)[a]? = some o := by
  unfold newBench
  rw [List.getElem?_append_left (lt_of_some e)]
  exact e
mutual
theorem eqv_refl0 : ∀ d : PyData, d.canLay0 = true → PyData.eqv d d = true
  | .none, _ => rfl
  | .bool b, _ => by cases b <;> rfl
  | .int i, _ => by show decide (i = i) = true; exact decide_eq_true rfl
  | .str x, _ => by show decide (x = x) = true; exact decide_eq_true rfl
  | .list xs, h => eqvAll_refl0 xs h
  | .tuple xs, h => eqvAll_refl0 xs h
  | .dict _, h => nomatch h
theorem eqvAll_refl0 : ∀ ds : List PyData, PyData.canLayAll0 ds = true → PyData.eqvAll ds ds = true
  | [], _ => rfl
  | d :: r, h => by
    have h2 := Bool.and_eq_true_iff.mp (show (d.canLay0 && PyData.canLayAll0 r) = true from h)
    show (PyData.eqv d d && PyData.eqvAll r r) = true
    rw [eqv_refl0 d h2.1, eqvAll_refl0 r h2.2]
    rfl
end
theorem eq_same {x : PV} (hx : asD h x = none) (ht : thaw h x = x) (px : plain x = true) : evCmp .eq h x x = some true := by
  show evEq h x x = _
  rw [evEq_plain (h := h) (x := x) (y := x) hx (by rw [ht]; exact px) (by rw [ht]; exact px), ht]
  exact congrArg some (eqv_refl0 _ (SeqAt.canLay_of_shaped px))
theorem ne_same {x : PV} (hx : asD h x = none) (ht : thaw h x = x) (px : plain x = true) : evCmp .ne h x x = some false := by
  show (evCmp .eq h x x).map (!·) = _
  rw [eq_same hx ht px]
  rfl
theorem told_lay (t : Tm) (ok : t.Ok) : (toD t.told).canLay0 = true ∧ (toD t.told).depth = t.depth := by
  have sl : ∀ x : String, PyData.strOk (Str.ofString x) = true := strOk_lit
  induction t with
  | opn => exact ⟨by show (PyData.strOk _ && true) = true; rw [sl]; rfl, rfl⟩
  | name x => exact ⟨by show (PyData.strOk _ && (PyData.strOk x && true)) = true; rw [sl, OkN.strOk ok]; rfl, rfl⟩
  | num i => exact ⟨by show (PyData.strOk _ && (true && true)) = true; rw [sl]; rfl, rfl⟩
  | mk x b ih =>
    refine ⟨?_, ?_⟩
    · show (PyData.strOk _ && (PyData.strOk x && ((toD b.told).canLay0 && true))) = true
      rw [sl, ok.1.strOk, (ih ok.2).1]; rfl
    · show max 0 (max 0 (max (toD b.told).depth 0)) + 1 = b.depth + 1
      rw [(ih ok.2).2]; omega
  | again x b ih =>
    refine ⟨?_, ?_⟩
    · show (PyData.strOk _ && (PyData.strOk x && ((toD b.told).canLay0 && true))) = true
      rw [sl, ok.1.strOk, (ih ok.2).1]; rfl
    · show max 0 (max 0 (max (toD b.told).depth 0)) + 1 = b.depth + 1
      rw [(ih ok.2).2]; omega
  | give a b ia ib =>
    refine ⟨?_, ?_⟩
    · show (PyData.strOk _ && ((toD a.told).canLay0 && ((toD b.told).canLay0 && true))) = true
      rw [sl, (ia ok.1).1, (ib ok.2).1]; rfl
    · show max 0 (max (toD a.told).depth (max (toD b.told).depth 0)) + 1 = max a.depth b.depth + 1
      rw [(ia ok.1).2, (ib ok.2).2]; omega
  | sum s a b ia ib =>
    refine ⟨?_, ?_⟩
    · show (PyData.strOk _ && (PyData.strOk s && ((toD a.told).canLay0 && ((toD b.told).canLay0 && true)))) = true
      rw [sl, ok.1.strOk, (ia ok.2.1).1, (ib ok.2.2).1]; rfl
    · show max 0 (max 0 (max (toD a.told).depth (max (toD b.told).depth 0))) + 1 = max a.depth b.depth + 1
      rw [(ia ok.2.1).2, (ib ok.2.2).2]; omega
  | cho a b c ia ib ic =>
    refine ⟨?_, ?_⟩
    · show (PyData.strOk _ && ((toD a.told).canLay0 && ((toD b.told).canLay0 && ((toD c.told).canLay0 && true)))) = true
      rw [sl, (ia ok.1).1, (ib ok.2.1).1, (ic ok.2.2).1]; rfl
    · show max 0 (max (toD a.told).depth (max (toD b.told).depth (max (toD c.told).depth 0))) + 1 = max (max a.depth b.depth) c.depth + 1
      rw [(ia ok.1).2, (ib ok.2.1).2, (ic ok.2.2).2]; omega
theorem plain_told {t : Tm} (ok : t.Ok) (dp : t.depth ≤ 64) : plain t.told = true := by
  show ((toD t.told).canLay0 && decide ((toD t.told).depth ≤ 64)) = true
  rw [(told_lay t ok).1, (told_lay t ok).2, decide_eq_true dp]
  rfl
theorem told_as (t : Tm) : asD h t.told = none ∧ thaw h t.told = t.told := by cases t <;> exact ⟨rfl, rfl⟩
theorem told_eq {t : Tm} (ok : t.Ok) (dp : t.depth ≤ 64) : evCmp .eq h t.told t.told = some true := eq_same (told_as t).1 (told_as t).2 (plain_told ok dp)
open Classical in
noncomputable def showT (s : St) : PV := if Beyond s.great then .non else s.shown.told
theorem showT_eq {s : St} (hs : s.Ok) : evCmp .eq h (showT s) (showT s) = some true := by
  unfold showT
  split
  · exact eq_same rfl rfl (by decide)
  · rename_i nb
    obtain ⟨a, b, c, d⟩ := shown_ok hs nb
    refine told_eq a ?_
    unfold Beyond at nb
    omega
theorem r_lshown {v : PV} {s : St} {f : Nat} (hs : s.Ok) (hm : mfind tab h v 21 = some f) (hr : ∀ fs : FS, fs.hp = h → pcall (EV (D - 1)) f [v] fs = R.up fs (s.showR fs.hp)) (hD : 62 ≤ D) : RUN D 308 [v] h = .ok (showT s) h := by
  obtain ⟨D, rfl, h1⟩ := suc hD
  rw [Nat.add_sub_cancel] at hr
  by_cases q : Beyond s.great
  · have e : showT s = .non := if_pos q
    have r1 : ∀ fs : FS, fs.hp = h → pcall (EV D) f [v] fs = .ex 5 [] fs := fun fs hf => by rw [hr fs hf, showR_up, if_pos q]
    rw [e]
    simp [R__law_shown, b__law_shown, hm, r1, caught, c_TooGreat, runHx]
  · have e : showT s = s.shown.told := if_neg q
    obtain ⟨a, b, c, d⟩ := shown_ok hs q
    have r1 : ∀ fs : FS, fs.hp = h → pcall (EV D) f [v] fs = .ok s.shown.v fs := fun fs hf => by rw [hr fs hf, showR_up, if_neg q]
    obtain ⟨f2, t1, t2⟩ := says_told (h := h) (D := D) s.shown (by unfold Beyond at q; omega)
    rw [e]
    simp [R__law_shown, b__law_shown, hm, r1, t1, t2]
theorem r_lshown_s {s : St} (hs : s.Ok) (hD : 100 ≤ D) : RUN D 308 [s.v] h = .ok (showT s) h := by
  have dp := hs.dp
  refine r_lshown (f := 106) hs rfl (fun fs hf => ?_) (by omega)
  rw [pc_State_shown, r_shown (h := fs.hp) (D := D - 1) hs (by omega)]
variable {b e f n here : Nat} {t : Tm}
theorem r_lshown_b (B : BAt h b c e f t n here) (hD : 120 ≤ D) : RUN D 308 [.obj b] h = .ok (showT ((first t).go here)) h := by
  refine r_lshown (f := 227) (go_at B) (says_bench B 21 227 rfl) (fun fs hf => ?_) (by omega)
  subst hf
  rw [pc_Bench_shown, r_bshown (D := D - 1) B (by omega)]
end U
set_option maxHeartbeats 2000000
namespace U
open PySem L2
variable {D : Nat} {h : Hb} {st c : Nat} {b e f n here : Nat} {t : Tm}
theorem bl_ne (b : Bool) : (!b) = (true && !b) := by cases b <;> rfl
theorem plain_l {xs : List PV} (h1 : PyData.canLayAll0 (toDs xs) = true) (h2 : PyData.depthAll (toDs xs) ≤ 63) : plain (.lst xs) = true := by
  show (PyData.canLayAll0 (toDs xs) && decide (PyData.depthAll (toDs xs) + 1 ≤ 64)) = true
  rw [h1, decide_eq_true (by omega)]
  rfl
theorem catO_l (xs ys : List PV) : catO h (.lst xs) (.lst ys) = if xs.length + ys.length ≤ sizeLine then some (xs ++ ys) else none := rfl
theorem asOf_ties (ts : Ties) : asOf h (tiesV ts) = some ((kvs ts).map fun kv => keyV kv.1) := by
  show some ((zipD _ _).map fun kv => keyV kv.1) = _
  rw [zip_ties]
theorem dic_same (l : List Str) : evCmp .ne h (tiesV (tallyT l)) (tiesV (tallyT l)) = some false := by
  show (evEq h (tiesV (tallyT l)) (tiesV (tallyT l))).map (!·) = _
  unfold evEq
  rw [asD_ties]
  dsimp only
  rw [if_pos rfl]
  have : dEq (kvs (tallyT l)) (kvs (tallyT l)) = some true := by
    simp [tallyT, sortsS, kvs, dEq, dGet, kOf]
  rw [this]
  rfl
theorem r_stands (B : BAt h b c e f t n here) (hD : 130 ≤ D) : RUN D 309 [.obj b, t.v, .int here] h = .ok (.bl true) h := by
  obtain ⟨D, rfl, h1⟩ := suc hD
  have m1 := r_machine_run (h := h) (D := D) B.cl (most := here) (k := here) (by have := B.le; have := B.n3; omega) (B.g.mono B.le) (Nat.le_refl _) (.inl rfl) (by omega)
  have b1 := says_bench B 63 228 rfl
  have b2 := says_bench B 62 223 rfl
  have b3 := says_bench B 20 226 rfl
  have b4 := says_bench B 17 224 rfl
  have b5 := says_bench B 19 225 rfl
  have r1 := r_btally (D := D) B (by omega)
  have r2 := r_bdone (D := D) B (by omega)
  have r3 := r_bheight (D := D) B (by omega)
  have r4 := r_bhow (D := D) B (by omega)
  have r5 := r_bcame (D := D) B (by omega)
  have r6 := r_lshown_b (D := D) B (by omega)
  have go := go_at B
  have r7 := r_lshown_s (h := h) (D := D) go (by omega)
  obtain ⟨f4, s1, s2⟩ := says_how (h := h) (D := D) ((first t).go here) (by omega)
  obtain ⟨f5, s3, s4⟩ := says_height (h := h) (D := D) ((first t).go here) (by omega)
  obtain ⟨f6, s5, s6⟩ := says_came (h := h) (D := D) ((first t).go here) (by omega)
  have sh := showT_eq (h := h) go
  have ds := dic_same (h := h) (sortsL (first t) here)
  have ad := asD_ties (h := h) (tallyT (sortsL (first t) here))
  -- the numbers
  have vals : (kvs (tallyT (sortsL (first t) here))).map (fun kv => kv.2) = sortsS.map fun z => .int ((sortsL (first t) here).count z) := by
    simp [kvs, tallyT, sortsS]
  have keys : (kvs (tallyT (sortsL (first t) here))).map (fun kv => keyV kv.1) = sortsS.map .str := by
    simp [kvs, tallyT, sortsS, kOf, keyV]
  have ec : ∀ h, catO h (.lst [.int here, .int ((first t).go here).pile.length]) (.lst (sortsS.map fun z => .int ((sortsL (first t) here).count z))) = some (((here : Int) :: (((first t).go here).pile.length : Int) :: sortsS.map fun z => ((sortsL (first t) here).count z : Int)).map .int) := fun h => by
    rw [catO_l, if_pos (le_sz (by simp [sortsS]))]
    simp
  have wr : ∀ (l : List Int) (a0 a1 a2 a3 a4 a5 a6 a7 a8 : Sl), l.length ≤ 1000 → cmpN (turnR (EV D) (E.var 9) (Tg.n 9) (Ts.cons (T.or_ (T.not_ (T.v (E.isi (E.var 9) [TyR.ty "int"]))) (T.v (E.isi (E.var 9) [TyR.ty "bool"]))) Ts.nil)) (l.map .int) h [a0, a1, a2, a3, a4, a5, a6, a7, a8, .un] [] = .ok [] h := by
    intro l a0 a1 a2 a3 a4 a5 a6 a7 a8 hl
    refine (cmpN_filt (f := PV.int) (p := fun _ => false) (fun i hi => ⟨_, by simp; rfl⟩) (le_sz (by simp; omega))).trans ?_
    simp
  have ne0 : ∀ h, evCmp .ne h (.lst []) (.lst []) = some false := fun h => ne_same rfl rfl (by decide)
  have nek : ∀ h, evCmp .ne h (.lst (sortsS.map .str)) (.lst [.str "open", .str "look", .str "take", .str "turn", .str "next", .str "sum", .str "choose"]) = some false := fun h => ne_same rfl rfl (plain_strs (by simp [sortsS]))
  have hso := how_strOk ((first t).go here)
  have nel : ∀ h, evCmp .ne h (.lst [.int here, .str ((first t).go here).how, .int ((first t).go here).pile.length]) (.lst [.int here, .str ((first t).go here).how, .int ((first t).go here).pile.length]) = some false := fun h => ne_same rfl rfl (plain_l (by
      show (true && (PyData.strOk _ && (true && true))) = true
      rw [hso]; rfl) (by show max 0 (max 0 (max 0 0)) ≤ 63; omega))
  have eqc : ∀ h, evCmp .eq h ((first t).go here).came ((first t).go here).came = some true := fun h => by
    have : ((first t).go here).came = .non ∨ ∃ i, ((first t).go here).came = .int i := by
      unfold St.came
      split
      · exact .inr ⟨_, rfl⟩
      · exact .inl rfl
    rcases this with q | ⟨i, q⟩ <;> rw [q]
    · exact eq_same rfl rfl (by decide)
    · exact eq_same rfl rfl (plain_int)
  have w9 := wr ((here : Int) :: (((first t).go here).pile.length : Int) :: sortsS.map fun z => ((sortsL (first t) here).count z : Int))
  simp only [List.map_cons] at ec
  have w9' : ∀ a0 a1 a2 a3 a4 a5 a6 a7 a8, _ := fun a0 a1 a2 a3 a4 a5 a6 a7 a8 => w9 a0 a1 a2 a3 a4 a5 a6 a7 a8 (by simp [sortsS])
  simp only [List.map_cons, List.map_map] at w9' ec
  have ao := asOf_ties (h := h) (tallyT (sortsL (first t) here))
  rw [keys] at ao
  have ec2 := ec
  rw [← vals] at ec2
  simp [R__law_stands, b__law_stands, m1, b1, r1, getD_ties, b2, r2, b3, r3, kvs_v, ad, ec2, blk, wip, blind, w9', ne0, ao, nek, ds, b4, r4, s1, s2, s3, s4, nel, b5, r5, s5, s6, eqc, r6, r7, sh]
/-- how far the machine goes, at most so many -/
theorem last_ex (s : St) : ∀ m : Nat, ∃ k, k ≤ m ∧ Goes s k ∧ (k = m ∨ (s.go k).next = none)
  | 0 => ⟨0, Nat.le_refl _, fun _ h => absurd h (Nat.not_lt_zero _), .inl rfl⟩
  | m + 1 => by
    obtain ⟨k, l, g, e⟩ := last_ex s m
    by_cases q : (s.go k).next = none
    · exact ⟨k, by omega, g, .inr q⟩
    · rcases e with e | e
      · refine ⟨k + 1, by omega, fun j hj => ?_, .inl (by omega)⟩
        by_cases z : j = k
        · rw [z]; exact q
        · exact g j (by omega)
      · exact absurd e q
theorem in_l2 {i x y : Int} : evIn h (.int i) (.lst [.int x, .int y]) = some (decide (x = i) || (decide (y = i) || false)) := rfl
variable {h' : Hb} {sc : Nat}
theorem BAt.same (B : BAt h b c e f t n here) {l : List Nat} (s : Same h h' l) (hb : b ∉ l) (hc : c ∉ l) (he : e ∉ l) : BAt h' b c e f t n here :=
  { B with hb := (s.2 b hb).trans B.hb, hc := (s.2 c hc).trans B.hc, he := (s.2 e he).trans B.he }
theorem LSt.same (L : LSt h st sc) {l : List Nat} (s : Same h h' l) (h1 : st ∉ l) (h2 : sc ∉ l) : LSt h' st sc := by
  obtain ⟨cs, a, m, L⟩ := L
  exact ⟨cs, a, m, { L with hs := (s.2 st h1).trans L.hs, hc := (s.2 sc h2).trans L.hc }⟩
def forBody : Ss → Option Ss
  | .cons (.for_ _ _ x) _ => some x
  | .cons _ r => forBody r
  | .nil => none
end U
namespace U
open PySem L2
variable {D : Nat} {h h1 h2 : Hb} {b c e f n here : Nat} {t : Tm} {ts : Ties}
/-- what stood stands still, but at some places -/
def Keep (h h' : Hb) (l : List Nat) : Prop := ∀ a, a ∉ l → ∀ o, h[a]? = some o → h'[a]? = some o
theorem Keep.refl {l : List Nat} : Keep h h l := fun _ _ _ x => x
theorem Keep.trans {l : List Nat} (x : Keep h h1 l) (y : Keep h1 h2 l) : Keep h h2 l := fun a q o z => y a q o (x a q o z)
theorem Keep.mono {l m : List Nat} (x : Keep h h1 l) (s : ∀ x ∈ l, x ∈ m) : Keep h h1 m := fun a q => x a fun z => q (s a z)
theorem Same.keep {l : List Nat} (x : Same h h1 l) : Keep h h1 l := fun a q o z => (x.2 a q).trans z
theorem Keep.of_new {m : List Nat} {l : Hb} (x : Keep (h ++ l) h1 m) (hm : ∀ a ∈ m, h.length ≤ a) : Keep h h1 [] := fun a _ o z => by
  have la := lt_of_some z
  exact x a (fun q => by have := hm a q; omega) o (by rw [List.getElem?_append_left la]; exact z)
/-- marks: names, each with a step -/
structure MOk (ts : Ties) (n : Nat) : Prop where
  nd : (ts.map fun q => q.1).Nodup
  ok : ∀ q ∈ ts, OkN q.1 ∧ ∃ i : Nat, q.2 = .int i ∧ i ≤ n
theorem MOk.nil : MOk [] n := ⟨List.nodup_nil, fun _ h => nomatch h⟩
theorem MOk.mono {m : Nat} (M : MOk ts n) (l : n ≤ m) : MOk ts m := ⟨M.nd, fun q hq => ⟨(M.ok q hq).1, by obtain ⟨i, e, z⟩ := (M.ok q hq).2; exact ⟨i, e, by omega⟩⟩⟩
theorem tput_keys (ts : Ties) (x : Str) (l : PV) : (tput ts x l).map (fun q => q.1) = if x ∈ ts.map (fun q => q.1) then ts.map (fun q => q.1) else ts.map (fun q => q.1) ++ [x] := by
  unfold tput
  have a : (ts.any fun q => decide (q.1 = x)) = true ↔ x ∈ ts.map (fun q => q.1) := by
    simp only [List.any_eq_true, List.mem_map, decide_eq_true_eq]
  by_cases q : x ∈ ts.map (fun q => q.1)
  · rw [if_pos (a.mpr q), if_pos q, List.map_map]
    refine List.map_congr_left fun z _ => ?_
    show (if z.1 = x then (z.1, l) else z).1 = z.1
    split <;> rfl
  · rw [if_neg fun z => q (a.mp z), if_neg q, List.map_append]
    rfl
theorem tput_new {x : Str} {l : PV} (q : x ∉ ts.map (fun q => q.1)) : tput ts x l = ts ++ [(x, l)] := by
  unfold tput
  refine if_neg fun z => q ?_
  simpa only [List.any_eq_true, List.mem_map, decide_eq_true_eq] using z
theorem MOk.put (M : MOk ts n) {x : Str} (ox : OkN x) {i : Nat} (l : i ≤ n) : MOk (tput ts x (.int i)) n := by
  refine ⟨?_, fun q hq => ?_⟩
  · rw [tput_keys]
    split
    · exact M.nd
    · rename_i q
      exact List.nodup_append.mpr ⟨M.nd, by simp, fun a ha b hb => by
        have : b = x := by simpa using hb
        intro e
        subst e
        subst this
        exact q ha⟩
  · have h1 : q.1 ∈ (tput ts x (.int i)).map (fun q => q.1) := List.mem_map_of_mem hq
    refine ⟨?_, tput_mem (P := fun v => ∃ i : Nat, v = .int i ∧ i ≤ n) (fun q hq => (M.ok q hq).2) ⟨i, rfl, l⟩ q hq⟩
    rw [tput_keys] at h1
    have h2 : q.1 ∈ ts.map (fun q => q.1) ∨ q.1 = x := by
      split at h1
      · exact .inl h1
      · simpa using h1
    rcases h2 with z | z
    · obtain ⟨q', hq', e'⟩ := List.mem_map.mp z
      rw [← e']
      exact (M.ok q' hq').1
    · rw [z]; exact ox
theorem tget_of_mem {x : Str} {v : PV} : ∀ {ts : Ties}, (ts.map fun q => q.1).Nodup → (x, v) ∈ ts → tget ts x = some v
  | [], _, h => nomatch h
  | (k, w) :: r, nd, h => by
    rw [List.map_cons, List.nodup_cons] at nd
    rw [tget]
    rcases List.mem_cons.mp h with q | q
    · cases q; exact if_pos rfl
    · rw [if_neg (fun z => nd.1 (by rw [z]; exact List.mem_map.mpr ⟨(x, v), q, rfl⟩))]
      exact tget_of_mem nd.2 q
theorem keys_txts : ∀ ts : Ties, (kvs ts).map (fun kv => keyV kv.1) = (ts.map fun q => q.1).map .str
  | [] => rfl
  | q :: r => by
    show keyV (kOf q.1) :: (kvs r).map (fun kv => keyV kv.1) = PV.str q.1 :: _
    rw [keys_txts r]
    rfl
theorem asD_obj {a : Nat} {kv : List (Key × PV)} (x : h[a]? = some (.dic kv)) : asD h (.obj a) = some kv := by
  unfold asD
  dsimp only
  rw [x]
theorem srtd_marks {a : Nat} (x : h[a]? = some (.dic (kvs ts))) (l : ts.length < 64) : srtdO h (.obj a) = some ((sortT (ts.map fun q => q.1)).map .str) := by
  unfold srtdO
  rw [asD_obj x]
  show ((txts ((kvs ts).map fun kv => keyV kv.1)).bind fun ts => if ts.length < 64 then some ((sortT ts).map PV.str) else none) = _
  rw [keys_txts, txts_str]
  show (if (ts.map fun q => q.1).length < 64 then _ else _) = _
  rw [List.length_map, if_pos l]
theorem mInsPerm (x : Str) : ∀ l : List Str, (insT x l).Perm (x :: l)
  | [] => List.Perm.refl _
  | y :: r => by
    unfold insT
    split
    · exact List.Perm.refl _
    · exact (List.Perm.cons y (mInsPerm x r)).trans (List.Perm.swap x y r)
theorem mSortPerm : ∀ l : List Str, (sortT l).Perm l
  | [] => List.Perm.refl _
  | x :: r => (mInsPerm x (sortT r)).trans (List.Perm.cons x (mSortPerm r))
/-- the marks in rising order -/
def sorted (ts : Ties) : Ties := (sortT (ts.map fun q => q.1)).map fun z => (z, (tget ts z).getD .non)
theorem fold_new (g : Str → PV) : ∀ (zs : List Str) (acc : Ties), zs.Nodup → (∀ z ∈ zs, z ∉ acc.map fun q => q.1) → zs.foldl (fun acc z => tput acc z (g z)) acc = acc ++ zs.map fun z => (z, g z)
  | [], acc, _, _ => by simp
  | z :: r, acc, nd, na => by
    rw [List.nodup_cons] at nd
    rw [List.foldl_cons, tput_new (na z List.mem_cons_self), fold_new g r _ nd.2 fun y hy => by
      rw [List.map_append]
      intro q
      rcases List.mem_append.mp q with q | q
      · exact na y (List.mem_cons_of_mem _ hy) q
      · have : y = z := by simpa using q
        subst this
        exact nd.1 hy, List.append_assoc]
    rfl
theorem sorted_len (ts : Ties) : (sorted ts).length = ts.length := by
  unfold sorted
  rw [List.length_map, (mSortPerm _).length_eq, List.length_map]
theorem dEq_marks (M : MOk ts n) : ∀ {l : Ties}, (∀ q ∈ l, tget ts q.1 = some q.2) → dEq (kvs l) (kvs ts) = some true
  | [], _ => rfl
  | (k, v) :: r, hl => by
    have e := hl (k, v) List.mem_cons_self
    obtain ⟨_, i, ei, _⟩ := M.ok _ (tget_mem e)
    have ei' : v = .int i := ei
    show (match dGet (kvs ts) (.inr k) with
      | some w => if plain v && plain w then (dEq (kvs r) (kvs ts)).map (eqv v w && ·) else none
      | none => some false) = _
    rw [dGet_ties, show tget ts k = some v from e]
    dsimp only
    subst ei'
    rw [dEq_marks M fun q hq => hl q (List.mem_cons_of_mem _ hq), if_pos (by simp [plain_int])]
    show some (decide ((i : Int) = i) && true) = _
    rw [decide_eq_true rfl]
    rfl
theorem sorted_get (M : MOk ts n) : ∀ q ∈ sorted ts, tget ts q.1 = some q.2 := by
  intro q hq
  obtain ⟨z, hz, rfl⟩ := List.mem_map.mp hq
  obtain ⟨v, ev⟩ := tget_in ((mSortPerm _).mem_iff.mp hz)
  show tget ts z = some ((tget ts z).getD .non)
  rw [ev]
  rfl
theorem eq_marks (M : MOk ts n) {a : Nat} (x : h[a]? = some (.dic (kvs ts))) : evCmp .eq h (tiesV (sorted ts)) (.obj a) = some true := by
  show evEq h (tiesV (sorted ts)) (.obj a) = _
  unfold evEq
  rw [asD_ties, asD_obj x]
  dsimp only
  rw [if_pos (by show ((sorted ts).map _).length = (ts.map _).length; rw [List.length_map, List.length_map, sorted_len])]
  exact dEq_marks M (sorted_get M)
theorem ne_marks (M : MOk ts n) {a : Nat} (x : h[a]? = some (.dic (kvs ts))) : evCmp .ne h (tiesV (sorted ts)) (.obj a) = some false := by
  show (evCmp .eq h (tiesV (sorted ts)) (.obj a)).map (!·) = _
  rw [eq_marks M x]
  rfl
end U
namespace U
open PySem L2
variable {D : Nat} {h h1 h2 : Hb} {b c e f n here : Nat} {t : Tm} {ts : Ties}
theorem putI_dic {sl : List Sl} {a : Nat} {x : Str} {v : PV} (q : h[a]? = some (.dic (kvs ts))) (l : ts.length < 64) : putI (.obj a) (.str x) v ⟨sl, h⟩ = .ok .nx ⟨sl, h.set a (.dic (kvs (tput ts x v)))⟩ := by
  unfold putI
  dsimp only
  rw [q]
  show (if (kvs ts).length < 10000 then R.ok Fl.nx (putO ⟨sl, h⟩ a (.dic (dPut (kvs ts) (.inr x) v))) else .no) = _
  rw [if_pos (by show (ts.map _).length < 10000; rw [List.length_map]; omega), dPut_ties]
  rfl
theorem in_mk {a : Nat} {x : Str} (q : h[a]? = some (.dic (kvs ts))) : evIn h (.str x) (.obj a) = some (tget ts x).isSome := by
  have s : asS h (.obj a) = none := by
    show asL h (.obj a) = none
    unfold asL
    dsimp only
    rw [q]
  unfold evIn
  dsimp only
  rw [s, asD_obj q]
  show some (dGet (kvs ts) (.inr x)).isSome = _
  rw [dGet_ties]
theorem ix_dic {a : Nat} {x : Str} (q : h[a]? = some (.dic (kvs ts))) : evIx h (.obj a) (.str x) = tget ts x := by
  have s : asS h (.obj a) = none := by
    show asL h (.obj a) = none
    unfold asL
    dsimp only
    rw [q]
  unfold evIx
  dsimp only
  rw [s, asD_obj q]
  show dGet (kvs ts) (.inr x) = _
  rw [dGet_ties]
theorem get_dic {a : Nat} {x : Str} {v : PV} (q : h[a]? = some (.dic (kvs ts))) : getO h (.obj a) (.str x) v = some ((tget ts x).getD v) := by
  unfold getO
  rw [asD_obj q]
  show some ((dGet (kvs ts) (.inr x)).getD v) = _
  rw [dGet_ties]
theorem r_bmark (B : BAt h b c e f t n here) (F : h[f]? = some (.dic (kvs ts))) (l : ts.length < 64) {x : Str} (ox : OkN x) (hD : 2 ≤ D) : RUN D 229 [.obj b, .str x] h = .ok .non (h.set f (.dic (kvs (tput ts x (.int here))))) := by
  obtain ⟨D, rfl, h1⟩ := suc hD
  have f1 := fun k => fldV_obj (k := k) B.hb
  have e1 := r_is_name (h := h) (D := D) h1 ox
  have p1 := fun sl => putI_dic (sl := sl) (x := x) (v := .int here) F l
  simp [R_Bench_mark, b_Bench_mark, f1, benchF, fGet, e1, p1]
theorem r_bto (B : BAt h b c e f t n here) (F : h[f]? = some (.dic (kvs ts))) {x : Str} (ox : OkN x) {i : Nat} (ei : tget ts x = some (.int i)) (hD : 2 ≤ D) : RUN D 230 [.obj b, .str x] h = .ok (.int i) (h.set b (.ins 40 (benchF t b c e f i))) := by
  obtain ⟨D, rfl, h1⟩ := suc hD
  have f1 := fun k => fldV_obj (k := k) B.hb
  have e1 := r_is_name (h := h) (D := D) h1 ox
  have i1 := in_mk (x := x) F
  have i2 := ix_dic (x := x) F
  rw [ei] at i1 i2
  have p1 := fun sl => augf_here B (sl := sl) (z := (i : Int)) (j := i) rfl
  have f2 := fun k => fldV_obj (k := k) (show (h.set b (.ins 40 (benchF t b c e f i)))[b]? = _ from get_set B.hb)
  simp [benchF] at p1 f2
  simp [R_Bench_to, b_Bench_to, f1, benchF, fGet, e1, i1, i2, p1, f2]
theorem r_bmarks (B : BAt h b c e f t n here) (F : h[f]? = some (.dic (kvs ts))) (M : MOk ts n) (l : ts.length < 64) (hD : 1 ≤ D) : RUN D 231 [.obj b] h = .ok (tiesV (sorted ts)) h := by
  obtain ⟨D, rfl, h1⟩ := suc hD
  have f1 := fun k => fldV_obj (k := k) B.hb
  have s1 := srtd_marks F l
  have L1 : ∀ (zs : List Str) (acc : Ties) (s2 : Sl), acc.length + zs.length ≤ 1000 → (∀ z ∈ zs, z ∈ ts.map fun q => q.1) → ∃ s2', forN (forB (EV D) (Tg.n 2) (Ss.cons (S.seto 1 (E.var 2) (E.ix (E.fld (E.var 0) 40) (E.var 2))) Ss.nil)) (zs.map .str) ⟨[.val (.obj b), .dic (kvs acc), s2], h⟩ =
      .ok .nx ⟨[.val (.obj b), .dic (kvs (zs.foldl (fun acc z => tput acc z ((tget ts z).getD .non)) acc)), s2'], h⟩ := by
    intro zs
    induction zs with
    | nil => intro acc s2 _ _; exact ⟨s2, rfl⟩
    | cons z zs ih =>
      intro acc s2 hl hz
      obtain ⟨v, ev⟩ := tget_in (hz z List.mem_cons_self)
      have i2 := ix_dic (x := z) F
      have := tput_len acc z v
      rw [List.length_cons] at hl
      obtain ⟨s2', e⟩ := ih (tput acc z v) (.val (.str z)) (by omega) fun y hy => hz y (List.mem_cons_of_mem _ hy)
      refine ⟨s2', ?_⟩
      rw [List.map_cons, forN, List.foldl_cons, ev]
      rw [ev] at i2
      have hl2 : acc.length < 10000 := by omega
      simp [slOwn, putJ, hl2, f1, benchF, fGet, i2]
      exact e
  have ll : (sortT (ts.map fun q => q.1)).length = ts.length := by rw [(mSortPerm _).length_eq, List.length_map]
  obtain ⟨s2, e1⟩ := L1 (sortT (ts.map fun q => q.1)) [] .un (by rw [ll]; simp; omega) fun z hz => (mSortPerm _).mem_iff.mp hz
  rw [fold_new _ _ _ ((mSortPerm _).nodup_iff.mpr M.nd) (fun _ _ => by simp), List.nil_append] at e1
  have ek : kvs [] = [] := rfl
  rw [ek] at e1
  simp [R_Bench_marks, b_Bench_marks, f1, benchF, fGet, s1, e1, kvs_v]
  rfl
end U
namespace U
open PySem L2
variable {D : Nat} {h h1 h2 : Hb} {b c e f n here : Nat} {t : Tm} {ts : Ties}
noncomputable def twinH (h : Hb) (t : Tm) (n here : Nat) (ts : Ties) : Hb := h ++ [.ins 40 (benchF t h.length (h.length + 4) (h.length + 5) (h.length + 6) here), .lst (statesL (first t) 0), .lst [], .dic [], .lst (statesL (first t) n), .lst ((sortsL (first t) n).map .str), .dic (kvs ts)]
theorem get_app {a : Nat} {o : HB} (x : h[a]? = some o) (l : Hb) : (h ++ l)[a]? = some o := by
  rw [List.getElem?_append_left (lt_of_some x)]
  exact x
theorem asOf_l {a : Nat} {xs : List PV} (x : h[a]? = some (.lst xs)) : asOf h (.obj a) = some xs := by
  have : asL h (.obj a) = some xs := asL_obj x
  unfold asOf
  simp [asS, this]
theorem r_btwin (B : BAt h b c e f t n here) (F : h[f]? = some (.dic (kvs ts))) (hD : 73 ≤ D) : RUN D 232 [.obj b] h = .ok (.obj h.length) (twinH h t n here ts) := by
  obtain ⟨D, rfl, h1⟩ := suc hD
  have f0 := fun k => fldV_obj (k := k) B.hb
  have f1 := fun (l : Hb) k => fldV_obj (k := k) (get_app B.hb l)
  have a1 := fun (l : Hb) => asOf_l (get_app B.hc l)
  have a2 := fun (l : Hb) => asOf_l (get_app B.he l)
  have a3 := fun (l : Hb) => asD_obj (get_app F l)
  have g0 : ∀ l : Hb, (h ++ l)[h.length]? = l[0]? := fun l => app_get h l 0
  have s0 : ∀ (l : Hb) (o : HB), (h ++ l).set h.length o = h ++ l.set 0 o := fun l o => app_set h l 0 o
  have pf : ∀ (sl : List Sl) (fl : List (Nat × PV)) (l : Hb) (k : Nat) (y : PV), fl.length < 900 → k ∈ [32, 37, 38, 39, 40] → putF' tab (.obj h.length) k y ⟨sl, h ++ .ins 40 fl :: l⟩ = .ok .nx ⟨sl, h ++ .ins 40 (fPut fl k y) :: l⟩ := fun sl fl l k y hl hk => by
    rw [putF_obj (by rw [g0]; rfl) hl hk, s0]
    rfl
  have m1 := fun sl => mkH_bench (h := h) (D := D) B.cl (by omega) sl
  unfold newBench at m1
  simp [benchF, statesL, St.go] at m1
  simp [R_Bench_twin, b_Bench_twin, m1, f0, f1, benchF, fGet, newO, fPut, pf, a1, a2, a3]
  simp [twinH, benchF, statesL, St.go]
theorem BAt.keep {h' : Hb} {m : List Nat} (B : BAt h b c e f t n here) (K : Keep h h' m) (hb : b ∉ m) (hc : c ∉ m) (he : e ∉ m) : BAt h' b c e f t n here :=
  { B with hb := K _ hb _ B.hb, hc := K _ hc _ B.hc, he := K _ he _ B.he }
theorem came_eq (s : St) : evCmp .eq h s.came s.came = some true := by
  have : s.came = .non ∨ ∃ i, s.came = .int i := by
    unfold St.came
    split
    · exact .inr ⟨_, rfl⟩
    · exact .inl rfl
  rcases this with q | ⟨i, q⟩ <;> rw [q]
  · exact eq_same rfl rfl (by decide)
  · exact eq_same rfl rfl (plain_int)
theorem pair_ne (s : St) : evCmp .ne h (.lst [.str s.how, s.came]) (.lst [.str s.how, s.came]) = some false := by
  have : s.came = .non ∨ ∃ i, s.came = .int i := by
    unfold St.came
    split
    · exact .inr ⟨_, rfl⟩
    · exact .inl rfl
  have hso := how_strOk s
  refine ne_same rfl rfl (plain_l ?_ ?_)
  · show (PyData.strOk s.how && ((toD s.came).canLay0 && true)) = true
    rw [hso]
    rcases this with q | ⟨i, q⟩ <;> rw [q] <;> rfl
  · show max 0 (max (toD s.came).depth 0) ≤ 63
    rcases this with q | ⟨i, q⟩ <;> rw [q]
    · show max 0 (max 0 0) ≤ 63; omega
    · show max 0 (max 0 0) ≤ 63; omega
theorem deep_ties (l : List Str) (k : Nat) : deepE h (k + 2) (tiesV (tallyT l)) (tiesV (tallyT l)) = true := by
  have a1 : asL h (tiesV (tallyT l)) = none := rfl
  have a2 : sameF (tiesV (tallyT l)) (tiesV (tallyT l)) = false := rfl
  rw [deepE, a1, a2, asD_ties]
  simp [tallyT, sortsS, kvs, allD, dGet, kOf, deepE, sameF]
theorem deep_int (k : Nat) (i : Int) : deepE h (k + 1) (.int i) (.int i) = true := by
  rw [deepE]
  show (decide (i = i) || _) = true
  rw [decide_eq_true rfl]
  rfl
theorem three_ne {i j : Int} (l : List Str) : evCmp .ne h (.lst [.int i, .int j, tiesV (tallyT l)]) (.lst [.int i, .int j, tiesV (tallyT l)]) = some false := by
  show (evEq h _ _).map (!·) = _
  have d := deep_ties (h := h) l 6
  have p : plain (.lst [.int i, .int j, tiesV (tallyT l)]) = false := rfl
  have th : thaw h (.lst [.int i, .int j, tiesV (tallyT l)]) = .lst [.int i, .int j, tiesV (tallyT l)] := rfl
  have al : asL h (.lst [.int i, .int j, tiesV (tallyT l)]) = some [.int i, .int j, tiesV (tallyT l)] := rfl
  have ad : asD h (.lst [.int i, .int j, tiesV (tallyT l)]) = none := rfl
  have z : evEq h (.lst [.int i, .int j, tiesV (tallyT l)]) (.lst [.int i, .int j, tiesV (tallyT l)]) = some true := by
    unfold evEq
    rw [ad]
    dsimp only
    rw [th, p, al]
    show (if allP (deepE h 8) [.int i, .int j, tiesV (tallyT l)] [.int i, .int j, tiesV (tallyT l)] = true then some true else none) = some true
    rw [if_pos (by rw [allP, allP, allP, allP, deep_int, deep_int, d]; rfl)]
  rw [z]
  rfl
end U
namespace U
open PySem L2
variable {D : Nat} {h h1 h2 : Hb} {st c : Nat}
theorem letters_l : letters.cps.toList = (List.range 26).map (97 + ·) := by
  show (Str.ofString "abcdefghijklmnopqrstuvwxyz").cps.toList = _
  rw [cps_ofString]
  decide
theorem ix_let {i : Int} (h0 : 0 ≤ i) (h1 : i < 26) : evIx h (.str letters) (.int i) = some (.str ⟨#[97 + i.toNat]⟩) := by
  obtain ⟨n, rfl⟩ := Int.eq_ofNat_of_zero_le h0
  have hl : letters.length ≤ sizeLine := le_sz (by show letters.cps.toList.length ≤ _; rw [letters_len]; omega)
  show (if letters.length ≤ sizeLine then (atI letters.cps.toList (n : Int)).map (fun c => PV.str ⟨#[c]⟩) else none) = _
  rw [if_pos hl, atI_nat, letters_l, List.getElem?_map, List.getElem?_range (by omega)]
  rfl
/-- a name with another letter at a place -/
def yS (x : Str) (a : Nat) (k : Nat) : Str := cutS x none (some (a : Int)) ++ ⟨#[k]⟩ ++ cutS x (some ((a : Int) + 1)) none
theorem cutS_cps (x : Str) (lo hi : Option Int) : (cutS x lo hi).cps.toList = (x.cps.toList.drop (HT.sIx x.length 0 lo)).take (HT.sIx x.length x.length hi - HT.sIx x.length 0 lo) := List.toList_toArray
theorem yS_cps {x : Str} {a : Nat} (l : a < x.length) (k : Nat) : (yS x a k).cps.toList = x.cps.toList.take a ++ k :: x.cps.toList.drop (a + 1) := by
  have e1 : HT.sIx x.length x.length (some (a : Int)) = a := by rw [HT.sIx_nat]; omega
  have e2 : HT.sIx x.length 0 (some ((a : Int) + 1)) = a + 1 := by
    have := HT.sIx_nat x.length 0 (a + 1)
    rw [show ((a + 1 : Nat) : Int) = (a : Int) + 1 from rfl] at this
    rw [this]; omega
  have ea : ∀ p q : Str, (p ++ q).cps.toList = p.cps.toList ++ q.cps.toList := fun _ _ => Array.toList_append
  unfold yS
  rw [ea, ea, cutS_cps, cutS_cps, HT.sIx_none, HT.sIx_none, e1, e2, List.drop_zero, Nat.sub_zero, List.append_assoc, List.take_of_length_le (l := x.cps.toList.drop (a + 1)) (by rw [List.length_drop, cps_len]; omega)]
  rfl
theorem yS_ok {x : Str} (ox : OkN x) {a : Nat} (l : a < x.length) {k : Nat} (hk : k ∈ letters.cps.toList) : OkN (yS x a k) := by
  have e := yS_cps l k
  have el : (yS x a k).length = x.length := by
    rw [← cps_len, e, List.length_append, List.length_take, List.length_cons, List.length_drop, cps_len]
    omega
  refine ⟨by have := ox.lo; omega, by have := ox.hi; omega, fun d hd => ?_⟩
  rw [e] at hd
  rcases List.mem_append.mp hd with q | q
  · exact ox.ab d (List.mem_of_mem_take q)
  · rcases List.mem_cons.mp q with q | q
    · rw [q]; exact hk
    · exact ox.ab d (List.mem_of_mem_drop q)
theorem yS_inj {x : Str} {a : Nat} (l : a < x.length) {k m : Nat} (e : yS x a k = yS x a m) : k = m := by
  have e2 : (yS x a k).cps.toList = (yS x a m).cps.toList := by rw [e]
  rw [yS_cps l, yS_cps l] at e2
  have := List.append_cancel_left e2
  exact (List.cons.inj this).1
theorem cutS_len_le (x : Str) (lo hi : Option Int) : (cutS x lo hi).length ≤ x.length := by
  rw [← cps_len, cutS_cps, List.length_take, List.length_drop, cps_len]
  omega
theorem len_add (x y : Str) : (x ++ y).length = x.length + y.length := Str.length_append x y
theorem sl_ok {x : Str} (ox : OkN x) (lo hi : Option Int) : evSl (.str x) lo hi = some (.str (cutS x lo hi)) := by
  show (if x.length ≤ sizeLine then some (PV.str (cutS x lo hi)) else none) = _
  rw [if_pos ox.sz]
theorem y_add {x : Str} (ox : OkN x) (a k : Nat) : evBin .add (.str (cutS x none (some (a : Int)))) (.str ⟨#[k]⟩) = some (.str (cutS x none (some (a : Int)) ++ ⟨#[k]⟩)) ∧
    evBin .add (.str (cutS x none (some (a : Int)) ++ ⟨#[k]⟩)) (.str (cutS x (some ((a : Int) + 1)) none)) = some (.str (yS x a k)) := by
  have h1 := cutS_len_le x none (some (a : Int))
  have h2 := cutS_len_le x (some ((a : Int) + 1)) none
  have h3 := ox.hi
  have h4 : (⟨#[k]⟩ : Str).length = 1 := rfl
  exact ⟨bin_add_ss (le_sz (by rw [h4]; omega)), bin_add_ss (le_sz (by rw [len_add, h4]; omega))⟩
theorem in_lobj {a : Nat} {l : List Str} (q : h[a]? = some (.lst (l.map .str))) (x : Str) : evIn h (.str x) (.obj a) = some (decide (x ∈ l)) := by
  have s : asS h (.obj a) = some (l.map .str) := asL_obj q
  unfold evIn
  dsimp only
  rw [s]
  show (if flat (.str x) && (l.map PV.str).all flat then some (inL (.str x) (l.map .str)) else none) = _
  rw [flat_str, inL_str]
  rfl
theorem nd_len {α : Type} [DecidableEq α] : ∀ {ys ls : List α}, ys.Nodup → (∀ y ∈ ys, y ∈ ls) → ys.length ≤ ls.length
  | [], _, _, _ => Nat.zero_le _
  | y :: r, ls, nd, s => by
    rw [List.nodup_cons] at nd
    have h1 := s y List.mem_cons_self
    have := nd_len (ls := ls.erase y) nd.2 fun z hz => (List.mem_erase_of_ne (fun e => nd.1 (by rw [← e]; exact hz))).mpr (s z (List.mem_cons_of_mem _ hz))
    rw [List.length_erase_of_mem h1] at this
    have := List.length_pos_of_mem h1
    rw [List.length_cons]
    omega
/-- of more unlike ones than are there, one is new -/
theorem one_new {ys ls : List Str} (nd : ys.Nodup) (l : ls.length < ys.length) : ∃ y r, ys.filter (fun y => decide (y ∉ ls)) = y :: r := by
  cases e : ys.filter (fun y => decide (y ∉ ls)) with
  | cons y r => exact ⟨y, r, rfl⟩
  | nil =>
    have all : ∀ y ∈ ys, y ∈ ls := fun y hy => by
      have := List.filter_eq_nil_iff.mp e y hy
      simpa using this
    exact absurd (nd_len nd all) (by omega)
/-- the five letters from a place on -/
def five (i : Int) : List Nat := (List.range 5).map fun j : Nat => 97 + ((i + (j : Int)) % 26).toNat
theorem five_nd {i : Int} (h0 : 0 ≤ i) (h1 : i < 26) : (five i).Nodup := by
  obtain ⟨n, rfl⟩ := Int.eq_ofNat_of_zero_le h0
  have hn : n < 26 := by omega
  have : ∀ n : Nat, n < 26 → (five (n : Int)).Nodup := by decide
  exact this n hn
theorem five_in {i : Int} {k : Nat} (hk : k ∈ five i) : k ∈ letters.cps.toList := by
  obtain ⟨j, _, rfl⟩ := List.mem_map.mp hk
  rw [letters_l]
  refine List.mem_map.mpr ⟨((i + (j : Int)) % 26).toNat, List.mem_range.mpr ?_, rfl⟩
  omega
end U
set_option maxHeartbeats 4000000
namespace U
open PySem L2
variable {D : Nat} {h h1 h2 : Hb} {st c no : Nat}
def lmBody : Ss := (forBody b__law_marks).getD .nil
theorem c_signs {k : Int} (k0 : 0 ≤ k) (k1 : k < 26) (hp : Hb) (a0 a2 a3 a4 a5 a6 a8 a9 a11 a12 : Sl) : cmpN (turnR (EV D) (E.ix (E.var 1) (E.bin BO.mod (E.bin BO.add (E.var 7) (E.var 10)) (E.int 26))) (Tg.n 10) Ts.nil) (range0 5 0) hp [a0, .val (.str letters), a2, a3, a4, a5, a6, .val (.int k), a8, a9, .un, a11, a12] [] = .ok ((five k).map fun c => .str ⟨#[c]⟩) hp := by
  rw [range0_map]
  refine (cmpN_map (f := fun j : Nat => .str ⟨#[97 + ((k + (j : Int)) % 26).toNat]⟩) (fun j _ => ?_) (le_sz (by simp))).trans ?_
  · have e := ix_let (h := hp) (i := (k + (j : Int)) % 26) (Int.emod_nonneg _ (by omega)) (Int.emod_lt_of_pos _ (by omega))
    have e2 := bin_mod_ii (i := k + (j : Int)) (j := 26) (by omega)
    exact ⟨_, by simp [e2, e]; rfl⟩
  · rw [List.nil_append, five, List.map_map]
    rfl
theorem c_some {x : Str} (ox : OkN x) {a : Nat} (ks : List Nat) (lk : ks.length ≤ 1000) (hp : Hb) (a0 a1 a2 a5 a6 a7 a8 a9 a10 a12 : Sl) : cmpN (turnR (EV D) (E.bin BO.add (E.bin BO.add (E.sl (E.var 3) O.n (O.e (E.var 4))) (E.var 11)) (E.sl (E.var 3) (O.e (E.bin BO.add (E.var 4) (E.int 1))) O.n)) (Tg.n 11) Ts.nil) (ks.map fun c => .str ⟨#[c]⟩) hp [a0, a1, a2, .val (.str x), .val (.int a), a5, a6, a7, a8, a9, a10, .un, a12] [] = .ok ((ks.map (yS x a)).map .str) hp := by
  refine (cmpN_map (f := fun k : Nat => .str (yS x a k)) (fun k _ => ?_) (le_sz (by simp; omega))).trans ?_
  · obtain ⟨e1, e2⟩ := y_add ox a k
    have s1 := sl_ok ox none (some (a : Int))
    have s2 := sl_ok ox (some ((a : Int) + 1)) none
    exact ⟨_, by simp [s1, s2, e1, e2]; rfl⟩
  · rw [List.nil_append, List.map_map]
    rfl
theorem c_new {ls ys : List Str} {hp : Hb} (F : hp[no]? = some (.lst (ls.map .str))) (ly : ys.length ≤ 1000) (a0 a1 a2 a3 a4 a6 a7 a8 a9 a10 a11 : Sl) : cmpN (turnR (EV D) (E.var 12) (Tg.n 12) (Ts.cons (T.cmp CO.nin (E.var 12) (E.var 5)) Ts.nil)) (ys.map .str) hp [a0, a1, a2, a3, a4, .val (.obj no), a6, a7, a8, a9, a10, a11, .un] [] = .ok ((ys.filter fun y => decide (y ∉ ls)).map .str) hp := by
  refine (cmpN_filt (f := PV.str) (p := fun y => decide (y ∉ ls)) (fun y _ => ?_) (le_sz (by simp; omega))).trans ?_
  · have e := in_lobj F y
    by_cases q : y ∈ ls
    · exact ⟨_, by simp [e, q]; rfl⟩
    · exact ⟨_, by simp [e, q]; rfl⟩
  · rw [List.nil_append]
/-- one name more -/
theorem r_one (L : LSt h st c) {ls : List Str} (F : h[no]? = some (.lst (ls.map .str))) (ll : ls.length ≤ 3) {x : Str} (ox : OkN x) {a : Nat} (la : a < x.length) (n1 : no ≠ st) (n2 : no ≠ c) (al : Bool) (hD : 3 ≤ D) (s6 s7 s8 s9 : Sl) :
    ∃ h' y x' a' s7' s8' s9', evSs (EV D) lmBody ⟨[.val (.obj st), .val (.str letters), .val (.bl al), .val (.str x), .val (.int a), .val (.obj no), s6, s7, s8, s9, .un, .un, .un], h⟩ =
      .ok .nx ⟨[.val (.obj st), .val (.str letters), .val (.bl al), .val (.str x'), .val (.int (a' : Nat)), .val (.obj no), s6, s7', s8', s9', .un, .un, .un], h'⟩ ∧ OkN y ∧ OkN x' ∧ a' < x'.length ∧ LSt h' st c ∧ h'[no]? = some (.lst ((ls ++ [y]).map .str)) ∧ Same h h' [st, c, no] := by
  have nno : no ∉ [st, c] := by simp [n1, n2]
  have up : ∀ {h1 h2 : Hb}, Same h1 h2 [st, c] → Same h1 h2 [st, c, no] := fun s => s.mono (by simp)
  -- the name and the place
  have A : ∃ ha x' a', OkN x' ∧ a' < x'.length ∧ LSt ha st c ∧ Same h ha [st, c] ∧ ∀ r, evSs (EV D) (Ss.cons (S.ite (T.not_ (T.v (E.var 2))) (Ss.cons (S.set 3 (E.call 302 (Es.cons (E.var 0) (Es.cons (E.lst (LE.disp Es.nil)) Es.nil)))) (Ss.cons (S.set 4 (E.call 301 (Es.cons (E.var 0) (Es.cons (E.bf BF.len (Es.cons (E.var 3) Es.nil)) Es.nil)))) Ss.nil)) Ss.nil) r)
      ⟨[.val (.obj st), .val (.str letters), .val (.bl al), .val (.str x), .val (.int a), .val (.obj no), s6, s7, s8, s9, .un, .un, .un], h⟩ = evSs (EV D) r ⟨[.val (.obj st), .val (.str letters), .val (.bl al), .val (.str x'), .val (.int (a' : Nat)), .val (.obj no), s6, s7, s8, s9, .un, .un, .un], ha⟩ := by
    cases al with
    | true => exact ⟨h, x, a, ox, la, L, .refl, fun r => by simp⟩
    | false =>
      obtain ⟨_, ha, e1, ⟨y, rfl, oy⟩, L1, S1⟩ := r_name (D := D) (names := []) L (fun _ h => nomatch h) (by simp) (by omega)
      have lo := oy.lo
      have hi := oy.hi
      obtain ⟨k, hb, e2, k0, k1, L2, S2⟩ := r_draw (D := D) L1 (z := (y.length : Int)) (by omega) (by omega) (by omega)
      obtain ⟨k, rfl⟩ := Int.eq_ofNat_of_zero_le k0
      refine ⟨hb, y, k, oy, by omega, L2, S1.trans S2, fun r => ?_⟩
      rw [List.map_nil] at e1
      have el := fun h => len_str (h := h) oy.sz
      simp [e1, e2, el]
  obtain ⟨ha, x', a', ox', la', L1, S1, E1⟩ := A
  obtain ⟨k, hb, e2, k0, k1, L2, S2⟩ := r_draw (D := D) L1 (z := 26) (by omega) (by omega) (by omega)
  have F2 : hb[no]? = some (.lst (ls.map .str)) := ((S1.trans S2).2 no nno).trans F
  have nd : ((five k).map (yS x' a')).Nodup := by
    have := five_nd k0 k1
    refine List.Pairwise.map _ (fun p q hpq e => hpq (yS_inj la' e)) this
  have l5 : (five k).length = 5 := by simp [five]
  obtain ⟨y, r, ey⟩ := one_new (ls := ls) nd (by rw [List.length_map, l5]; omega)
  have hy : y ∈ (five k).map (yS x' a') := by
    have : y ∈ ((five k).map (yS x' a')).filter (fun y => decide (y ∉ ls)) := by rw [ey]; exact List.mem_cons_self
    exact (List.mem_filter.mp this).1
  obtain ⟨ky, hky, eky⟩ := List.mem_map.mp hy
  have oy : OkN y := by rw [← eky]; exact yS_ok ox' la' (five_in hky)
  have c1 := c_signs (D := D) k0 k1 hb
  have c2 := c_some (D := D) ox' (a := a') (five k) (by omega) hb
  have c3 := c_new (D := D) (ys := (five k).map (yS x' a')) F2 (by rw [List.length_map]; omega)
  rw [ey] at c3
  have hr := fun fs => rng1R_i (fs := fs) (n := 5) (by omega)
  have li := isLst_obj F2
  have ap : ∀ sl, mutO .append (.obj no) [.str y] ⟨sl, hb⟩ = .ok .non ⟨sl, hb.set no (.lst ((ls ++ [y]).map .str))⟩ := fun sl =>
    mutO_obj F2 (by rw [app_l (by rw [List.length_map]; exact le_sz (by omega)), List.map_append]; rfl)
  refine ⟨hb.set no (.lst ((ls ++ [y]).map .str)), y, x', a', .val (.int k), .val (.lst ((five k).map fun c => .str ⟨#[c]⟩)), .val (.lst (((five k).map (yS x' a')).map .str)), ?_, oy, ox', la', ?_, get_set F2, ((up S1).trans (up S2)).trans (same_set (by simp))⟩
  · show evSs (EV D) ((forBody b__law_marks).getD .nil) _ = _
    unfold b__law_marks
    simp only [forBody, Option.getD_some]
    rw [E1]
    simp only [List.map_cons] at c3
    simp at c1 c2 c3
    simp [e2, hr, blk, wip, blind, c1, c2, c3, li, ap]
  · obtain ⟨cs, aa, m, L⟩ := L2
    exact ⟨cs, aa, m, { L with hs := by rw [get_set_ne n1]; exact L.hs, hc := by rw [get_set_ne n2]; exact L.hc }⟩
/-- the names -/
theorem r_lmarks (L : LSt h st c) (hD : 4 ≤ D) : ∃ (h' : Hb) (names : List Str), RUN D 310 [.obj st] h = .ok (.obj h.length) h' ∧ LSt h' st c ∧ h'[h.length]? = some (.lst (names.map .str)) ∧ names.length = 4 ∧ (∀ x ∈ names, OkN x) ∧ Keep h h' [st, c] := by
  obtain ⟨D, rfl, h1⟩ := suc hD
  obtain ⟨k1, ha, e1, a1, b1, L1, S1⟩ := r_draw (D := D) L (z := 2) (by omega) (by omega) (by omega)
  obtain ⟨_, hb, e2, ⟨x, rfl, ox⟩, L2, S2⟩ := r_name (D := D) (names := []) L1 (fun _ h => nomatch h) (by simp) (by omega)
  have lo := ox.lo
  have hi := ox.hi
  obtain ⟨a, hc, e3, a3, b3, L3, S3⟩ := r_draw (D := D) L2 (z := (x.length : Int)) (by omega) (by omega) (by omega)
  obtain ⟨a, rfl⟩ := Int.eq_ofNat_of_zero_le a3
  have S0 := (S1.trans S2).trans S3
  have lh : hc.length = h.length := S0.1
  obtain ⟨cs, aa, m, L3'⟩ := L3
  have lst := lt_of_some L3'.hs
  have lsc := lt_of_some L3'.hc
  have L4 : LSt (hc ++ [.lst []]) st c := ⟨cs, aa, m, { L3' with hs := get_app L3'.hs _, hc := get_app L3'.hc _ }⟩
  have F4 : (hc ++ [HB.lst []])[hc.length]? = some (.lst (([] : List Str).map .str)) := app_get hc [.lst []] 0
  have LP : ∀ (as : List PV) (ls : List Str) (h0 : Hb) (x : Str) (a : Nat) (s6 s7 s8 s9 : Sl), ls.length + as.length ≤ 4 → LSt h0 st c → h0[hc.length]? = some (.lst (ls.map .str)) → OkN x → a < x.length → (∀ y ∈ ls, OkN y) →
      ∃ (h' : Hb) (ls' : List Str) (x' : Str) (a' : Nat) (s6' s7' s8' s9' : Sl), forN (forB (EV D) (Tg.n 6) lmBody) as ⟨[.val (.obj st), .val (.str letters), .val (.bl (decide (k1 = 0))), .val (.str x), .val (.int a), .val (.obj hc.length), s6, s7, s8, s9, .un, .un, .un], h0⟩ =
        .ok .nx ⟨[.val (.obj st), .val (.str letters), .val (.bl (decide (k1 = 0))), .val (.str x'), .val (.int (a' : Nat)), .val (.obj hc.length), s6', s7', s8', s9', .un, .un, .un], h'⟩ ∧ LSt h' st c ∧ h'[hc.length]? = some (.lst (ls'.map .str)) ∧ ls'.length = ls.length + as.length ∧ (∀ y ∈ ls', OkN y) ∧ Same h0 h' [st, c, hc.length] := by
    intro as
    induction as with
    | nil => intro ls h0 x a s6 s7 s8 s9 _ L0 F0 ox la oy; exact ⟨h0, ls, x, a, s6, s7, s8, s9, rfl, L0, F0, rfl, oy, .refl⟩
    | cons v r ih =>
      intro ls h0 x a s6 s7 s8 s9 hl L0 F0 ox la oy
      rw [List.length_cons] at hl
      obtain ⟨h', y, x', a', s7', s8', s9', e, oy', ox', la', L', F', S'⟩ := r_one (D := D) L0 F0 (by omega) ox la (by omega) (by omega) (decide (k1 = 0)) (by omega) (.val v) s7 s8 s9
      obtain ⟨h2, ls2, x2, a2, t6, t7, t8, t9, e2, L2, F2, l2, o2, S2⟩ := ih (ls ++ [y]) h' x' a' (.val v) s7' s8' s9' (by rw [List.length_append, List.length_cons, List.length_nil]; omega) L' F' ox' la' (fun z hz => by
        rcases List.mem_append.mp hz with q | q
        · exact oy z q
        · have : z = y := by simpa using q
          rw [this]; exact oy')
      refine ⟨h2, ls2, x2, a2, t6, t7, t8, t9, ?_, L2, F2, by rw [l2, List.length_append, List.length_cons, List.length_cons, List.length_nil]; omega, o2, S'.trans S2⟩
      rw [forN, forB_eq]
      simp only [asg_n, oI_s, set_mk, List.set_cons_succ, List.set_cons_zero, e]
      exact e2
  obtain ⟨h5, ls, x5, a5, s6, s7, s8, s9, e5, L5, F5, l5, o5, S5⟩ := LP (range0 4 0) [] (hc ++ [.lst []]) x a .un .un .un .un (by simp [range0]) L4 F4 ox (by omega) (fun _ h => nomatch h)
  have hr := fun fs => rng1R_i (fs := fs) (n := 4) (by omega)
  have el := fun h => len_str (h := h) ox.sz
  have en : (Str.ofString "abcdefghijklmnopqrstuvwxyz") = letters := rfl
  refine ⟨h5, ls, ?_, L5, by rw [← lh]; exact F5, by rw [l5]; simp [range0], o5, ?_⟩
  · rw [List.map_nil] at e2
    unfold lmBody b__law_marks at e5
    simp only [forBody, Option.getD_some, lh] at e5
    simp [R__law_marks, b__law_marks, e1, e2, e3, el, en, newO, hr, e5, lh]
  · refine S0.keep.trans fun z hz o ho => ?_
    have lz := lt_of_some ho
    have : z ∉ [st, c, hc.length] := by
      simp at hz ⊢
      omega
    exact (S5.2 z this).trans (get_app ho _)
end U
namespace U
open PySem L2
variable {D : Nat} {h h' : Hb} {b c e f m La a i : Nat} {t : Tm} {ts : Ties}
theorem LSt.keep {st sc : Nat} {m : List Nat} (L : LSt h st sc) (K : Keep h h' m) (h1 : st ∉ m) (h2 : sc ∉ m) : LSt h' st sc := by
  obtain ⟨cs, a, m, L⟩ := L
  exact ⟨cs, a, m, { L with hs := K _ h1 _ L.hs, hc := K _ h2 _ L.hc }⟩
theorem twin_at {n here : Nat} (B : BAt h b c e f t n here) : BAt (twinH h t n here ts) h.length (h.length + 4) (h.length + 5) (h.length + 6) t n here :=
  { B with
    hb := app_get h _ 0
    hc := app_get h _ 4
    he := app_get h _ 5
    bc := by omega
    be := by omega
    ce := by omega
    fc := by omega }
/-- one bench of the three, with the law's own marks of it -/
structure One (h : Hb) (b c e f m : Nat) (t : Tm) (La a : Nat) (ts : Ties) (i : Nat) : Prop where
  B : ∃ n, BAt h b c e f t n a ∧ MOk ts n
  F : h[f]? = some (.dic (kvs ts))
  G : h[m]? = some (.dic (kvs ts))
  le : a ≤ La
  tl : ts.length ≤ i
  M : MOk ts La
  d : m ≠ b ∧ m ≠ c ∧ m ≠ e ∧ m ≠ f
theorem One.keep {l : List Nat} (O : One h b c e f m t La a ts i) (K : Keep h h' l) (d : ∀ x ∈ [b, c, e, f, m], x ∉ l) : One h' b c e f m t La a ts i :=
  { O with
    B := by obtain ⟨n, B, M⟩ := O.B; exact ⟨n, B.keep K (d _ (by simp)) (d _ (by simp)) (d _ (by simp)), M⟩
    F := K _ (d _ (by simp)) _ O.F
    G := K _ (d _ (by simp)) _ O.G }
theorem One.up {j : Nat} (O : One h b c e f m t La a ts i) (l : i ≤ j) : One h b c e f m t La a ts j := { O with tl := by have := O.tl; omega }
theorem One.moved {k n n' : Nat} (O : One h b c e f m t La a ts i) (M : MOk ts n) (B : BAt h' b c e f t n' k) (S : Same h h' [b, c, e]) (l : n ≤ n') (lk : k ≤ La) : One h' b c e f m t La k ts i := by
  have fc := B.fc
  have d := O.d
  exact { O with
    B := ⟨n', B, M.mono l⟩
    F := (S.2 f (by simp [fc])).trans O.F
    G := (S.2 m (by simp [d])).trans O.G
    le := lk }
theorem One.marked {x : Str} (O : One h b c e f m t La a ts i) (ox : OkN x) : One ((h.set f (.dic (kvs (tput ts x (.int a))))).set m (.dic (kvs (tput ts x (.int a))))) b c e f m t La a (tput ts x (.int a)) (i + 1) := by
  obtain ⟨n, B, M⟩ := O.B
  have fc := B.fc
  have d := O.d
  have S : Same h ((h.set f (.dic (kvs (tput ts x (.int a))))).set m (.dic (kvs (tput ts x (.int a))))) [f, m] := (same_set (by simp)).trans (same_set (by simp))
  have G1 : (h.set f (.dic (kvs (tput ts x (.int a)))))[m]? = some (.dic (kvs ts)) := by rw [get_set_ne d.2.2.2.symm]; exact O.G
  have tl := O.tl
  have := tput_len ts x (.int a)
  exact { O with
    B := ⟨n, B.same S (by simp [fc.1.symm, d.1.symm]) (by simp [fc.2.1.symm, d.2.1.symm]) (by simp [fc.2.2.symm, d.2.2.1.symm]), M.put ox B.le⟩
    F := by rw [get_set_ne d.2.2.2]; exact get_set O.F
    G := get_set G1
    tl := by omega
    M := O.M.put ox O.le }
theorem r_ldone (O : One h b c e f m t La a ts i) (l60 : La ≤ 60) (gl : Goes (first t) La) {x : Str} (ox : OkN x) {w : Int} (w0 : 0 ≤ w) (w1 : w < 6) {mm : Nat} (hm : w < 3 → a + mm ≤ La) (hb : w = 3 → mm ≤ a) (hi : i < 40) (hD : 102 ≤ D) :
    ∃ h' a' ts', RUN D 311 [.obj b, .int w, .str x, .int mm, .obj m] h = .ok (.int (a' : Nat)) h' ∧ One h' b c e f m t La a' ts' (i + 1) ∧ Same h h' [b, c, e, f, m] ∧ (w < 3 → a' = a + mm) ∧ (w = 3 → a' = a - mm) ∧ (w = 4 → (tget ts x).getD (.int a) = .int a') ∧ (w = 5 → a' = a) := by
  obtain ⟨D, rfl, h1⟩ := suc (show 1 ≤ D by omega)
  obtain ⟨n, B, M⟩ := O.B
  have le := O.le
  have tl := O.tl
  have m62 := says_bench B 62 223 rfl
  have r62 := r_bdone (D := D) B (by omega)
  by_cases q3 : w < 3
  · have hm := hm q3
    obtain ⟨h4, n4, r4, B4, S4, l4⟩ := r_forth (D := D) B (many := mm) (k := mm) (by omega) (Nat.le_refl _) (by omega) (gl.mono (by omega)) (.inl rfl) (by omega)
    have m1 := says_bench B 59 220 rfl
    refine ⟨h4, a + mm, ts, ?_, (O.moved M B4 S4 l4 hm).up (by omega), S4.mono (by simp), fun _ => rfl, fun z => by omega, fun z => by omega, fun z => by omega⟩
    simp [R__law_done, b__law_done, q3, m62, r62, m1, r4]
  · by_cases q4 : w = 3
    · subst q4
      have hb := hb rfl
      obtain ⟨h4, r4, B4, S4⟩ := r_back (D := D) B (many := mm) (by omega)
      have m1 := says_bench B 61 222 rfl
      rw [Nat.min_eq_left hb] at B4
      refine ⟨h4, a - mm, ts, ?_, (O.moved M B4 S4 (Nat.le_refl _) (by omega)).up (by omega), S4.mono (by simp), fun z => by omega, fun _ => rfl, fun z => by omega, fun z => by omega⟩
      have x1 : min (mm : Int) (a : Int) = mm := by omega
      simp [R__law_done, b__law_done, m62, r62, m1, r4, x1]
      omega
    · have i1 := in_mk (x := x) O.G
      -- a mark that is set
      have MK : (w = 4 → tget ts x = none) → ∃ h' a' ts', RUN (D + 1) 311 [.obj b, .int w, .str x, .int mm, .obj m] h = .ok (.int (a' : Nat)) h' ∧ One h' b c e f m t La a' ts' (i + 1) ∧ Same h h' [b, c, e, f, m] ∧ (w < 3 → a' = a + mm) ∧ (w = 3 → a' = a - mm) ∧ (w = 4 → (tget ts x).getD (.int a) = .int a') ∧ (w = 5 → a' = a) := by
        intro hw
        have fc := B.fc
        have d := O.d
        have r1 := r_bmark (D := D) B O.F (by omega) ox (by omega)
        have m1 := says_bench B 64 229 rfl
        have S1 : Same h (h.set f (.dic (kvs (tput ts x (.int a))))) [f] := same_set (by simp)
        have B1 := B.same S1 (by simp [fc.1.symm]) (by simp [fc.2.1.symm]) (by simp [fc.2.2.symm])
        have G1 := (S1.2 m (by simp [d])).trans O.G
        have p1 := fun sl => putI_dic (sl := sl) (x := x) (v := .int a) G1 (by omega)
        have m2 := says_bench B1 62 223 rfl
        have r2 := r_bdone (D := D) B1 (by omega)
        have O2 := O.marked ox
        obtain ⟨n3, B3, _⟩ := O2.B
        have m3 := says_bench B3 62 223 rfl
        have r3 := r_bdone (D := D) B3 (by omega)
        refine ⟨_, a, _, ?_, O2, ((same_set (by simp)).trans (same_set (by simp))), fun z => by omega, fun z => by omega, fun z => by rw [hw z]; rfl, fun _ => rfl⟩
        by_cases q5 : w = 4
        · rw [hw q5] at i1
          simp [R__law_done, b__law_done, q5, i1, m1, r1, m2, r2, p1, m3, r3]
        · simp [R__law_done, b__law_done, q3, q4, q5, m1, r1, m2, r2, p1, m3, r3]
      by_cases q5 : w = 4
      · cases g : tget ts x with
        | none => rw [← g]; exact MK fun _ => g
        | some v =>
          obtain ⟨_, j, ej, lj⟩ := M.ok _ (tget_mem g)
          obtain ⟨_, j2, ej2, lj2⟩ := O.M.ok _ (tget_mem g)
          have ej' : v = .int j := ej
          have ej2' : v = .int j2 := ej2
          subst ej'
          have : j = j2 := by have := PV.int.inj ej2'; omega
          subst this
          rw [g] at i1
          subst q5
          have m1 := says_bench B 65 230 rfl
          have r1 := r_bto (D := D) B O.F ox g (by omega)
          refine ⟨_, j, ts, ?_, (O.moved M (B.set lj) (same_set (by simp)) (Nat.le_refl _) lj2).up (by omega), same_set (by simp), fun z => by omega, fun z => by omega, fun _ => rfl, fun z => by omega⟩
          simp [R__law_done, b__law_done, i1, m1, r1]
      · exact MK fun z => absurd z q5
end U
namespace U
open PySem L2
variable {D : Nat} {h h' : Hb} {st sc no bl sl ml La i : Nat} {b c e f m a : Nat → Nat} {t : Tm} {ts : Nat → Ties} {names : List Str}
/-- three benches, where they stand, their marks -/
structure Tri (h : Hb) (st sc no bl sl ml : Nat) (b c e f m : Nat → Nat) (t : Tm) (La : Nat) (a : Nat → Nat) (names : List Str) (ts : Nat → Ties) (i : Nat) : Prop where
  L : LSt h st sc
  O : ∀ k, k < 3 → One h (b k) (c k) (e k) (f k) (m k) t La (a k) (ts k) i
  Ln : names.length = 4 ∧ ∀ x ∈ names, OkN x
  Lb : h[bl]? = some (.lst [.obj (b 0), .obj (b 1), .obj (b 2)])
  Ls : h[sl]? = some (.lst [.int (a 0), .int (a 1), .int (a 2)])
  Lm : h[ml]? = some (.lst [.obj (m 0), .obj (m 1), .obj (m 2)])
  N : h[no]? = some (.lst (names.map .str))
  dj : ∀ j k, j < 3 → k < 3 → j ≠ k → ∀ x ∈ [b j, c j, e j, f j, m j], x ∉ [b k, c k, e k, f k, m k]
  dx : ∀ k, k < 3 → ∀ x ∈ [b k, c k, e k, f k, m k], x ∉ [st, sc, no, bl, sl, ml]
  d2 : (∀ x ∈ [no, bl, sl, ml], x ∉ [st, sc]) ∧ ∀ x ∈ [st, sc, no, bl, ml], x ≠ sl
theorem is_obj {o : Nat} {fl : List (Nat × PV)} (q : h[o]? = some (.ins 40 fl)) : isAny tab h (.obj o) [.cls 40] = some true := by
  have e : clOf h (.obj o) = some 40 := by
    unfold clOf
    dsimp only
    rw [q]
  have z : isOne tab h (.obj o) (.cls 40) = some true := by
    unfold isOne
    rw [e]
    rfl
  unfold isAny
  rw [z]
theorem r_lright (Z : Tri h st sc no bl sl ml b c e f m t La a names ts i) (hi : i < 40) (hD : 140 ≤ D) : RUN D 312 [.obj bl, t.v, .obj sl, .obj ml] h = .ok (.bl true) h := by
  obtain ⟨D, rfl, h1⟩ := suc (show 1 ≤ D by omega)
  have K : ∀ (k : Nat) (s4 : Sl), k < 3 → evSs (EV D) ((forBody b__law_right).getD .nil) ⟨[.val (.obj bl), .val t.v, .val (.obj sl), .val (.obj ml), .val (.int k)], h⟩ = .ok .nx ⟨[.val (.obj bl), .val t.v, .val (.obj sl), .val (.obj ml), .val (.int k)], h⟩ := by
    intro k s4 hk
    have O := Z.O k hk
    obtain ⟨n, B, M⟩ := O.B
    have tl := O.tl
    have i1 : evIx h (.obj bl) (.int k) = some (.obj (b k)) := by
      rw [ix_obj Z.Lb, atI_nat]
      rcases (show k = 0 ∨ k = 1 ∨ k = 2 by omega) with z | z | z <;> subst z <;> rfl
    have i2 : evIx h (.obj sl) (.int k) = some (.int (a k)) := by
      rw [ix_obj Z.Ls, atI_nat]
      rcases (show k = 0 ∨ k = 1 ∨ k = 2 by omega) with z | z | z <;> subst z <;> rfl
    have i3 : evIx h (.obj ml) (.int k) = some (.obj (m k)) := by
      rw [ix_obj Z.Lm, atI_nat]
      rcases (show k = 0 ∨ k = 1 ∨ k = 2 by omega) with z | z | z <;> subst z <;> rfl
    have is := is_obj B.hb
    have m1 := says_bench B 66 231 rfl
    have r1 := r_bmarks (D := D) B O.F M (by omega) (by omega)
    have q1 := ne_marks (h := h) M O.G
    have r2 := r_stands (D := D) B (by omega)
    simp [forBody, b__law_right, i1, i2, i3, is, m1, r1, getD_ties, kvs_v, q1, r2]
  have ll : evBF .len h [.obj bl] = some (.int 3) := by rw [len_obj Z.Lb]; rfl
  have hr := fun fs => rng1R_i (fs := fs) (n := 3) (by omega)
  have K0 := K 0 .un (by omega)
  have K1 := K 1 .un (by omega)
  have K2 := K 2 .un (by omega)
  have LP : ∃ s4, forN (forB (EV D) (Tg.n 4) ((forBody b__law_right).getD .nil)) (range0 3 0) ⟨[.val (.obj bl), .val t.v, .val (.obj sl), .val (.obj ml), .un], h⟩ = .ok .nx ⟨[.val (.obj bl), .val t.v, .val (.obj sl), .val (.obj ml), s4], h⟩ := by
    refine ⟨.val (.int 2), ?_⟩
    show forN (forB (EV D) (Tg.n 4) ((forBody b__law_right).getD .nil)) [.int ((0 : Nat) : Int), .int ((1 : Nat) : Int), .int ((2 : Nat) : Int)] _ = _
    generalize (forBody b__law_right).getD .nil = r at *
    simp only [forN, forB_eq, asg_n, oI_s, set_mk, List.set_cons_succ, List.set_cons_zero, K0, K1, K2]
    rfl
  obtain ⟨s4, e1⟩ := LP
  unfold b__law_right at e1
  simp only [forBody, Option.getD_some] at e1
  simp [R__law_right, b__law_right, ll, hr, e1]
end U
namespace U
open PySem L2
variable {D : Nat} {h h' : Hb} {st sc no bl sl ml La i : Nat} {b c e f m a : Nat → Nat} {t : Tm} {ts : Nat → Ties} {names : List Str}
def fu {α : Type} (g : Nat → α) (k : Nat) (v : α) : Nat → α := fun j => if j = k then v else g j
theorem fu_same {α : Type} (g : Nat → α) (k : Nat) (v : α) : fu g k v k = v := if_pos rfl
theorem fu_ne {α : Type} (g : Nat → α) {k j : Nat} (v : α) (n : j ≠ k) : fu g k v j = g j := if_neg n
theorem Tri.same (Z : Tri h st sc no bl sl ml b c e f m t La a names ts i) (S : Same h h' [st, sc]) (L : LSt h' st sc) : Tri h' st sc no bl sl ml b c e f m t La a names ts i :=
  { Z with
    L := L
    O := fun k hk => (Z.O k hk).keep S.keep fun x hx q => Z.dx k hk x hx (by
      simp only [List.mem_cons, List.not_mem_nil, or_false] at q ⊢
      rcases q with q | q
      · exact .inl q
      · exact .inr (.inl q))
    Lb := (S.2 bl (Z.d2.1 bl (by simp))).trans Z.Lb
    Ls := (S.2 sl (Z.d2.1 sl (by simp))).trans Z.Ls
    Lm := (S.2 ml (Z.d2.1 ml (by simp))).trans Z.Lm
    N := (S.2 no (Z.d2.1 no (by simp))).trans Z.N }
theorem Tri.out (Z : Tri h st sc no bl sl ml b c e f m t La a names ts i) {k y : Nat} (hk : k < 3) (hy : y ∈ [st, sc, no, bl, sl, ml]) : y ∉ [b k, c k, e k, f k, m k] := fun q => Z.dx k hk y q hy
theorem Tri.off (Z : Tri h st sc no bl sl ml b c e f m t La a names ts i) {j : Nat} (hj : j < 3) : ∀ x ∈ [b j, c j, e j, f j, m j], x ∉ [sl] := fun x hx y => Z.dx j hj x hx (by
  have : x = sl := by simpa using y
  simp [this])
theorem Tri.deed {k a' : Nat} {ts' : Ties} (Z : Tri h st sc no bl sl ml b c e f m t La a names ts i) (hk : k < 3)
    (O' : One h' (b k) (c k) (e k) (f k) (m k) t La a' ts' (i + 1)) (S : Same (h.set sl (.lst ([.int (a 0), .int (a 1), .int (a 2)].set k (.int a')))) h' [b k, c k, e k, f k, m k]) : Tri h' st sc no bl sl ml b c e f m t La (fu a k a') names (fu ts k ts') (i + 1) := by
  have S0 : Same h (h.set sl (.lst ([.int (a 0), .int (a 1), .int (a 2)].set k (.int a')))) [sl] := same_set (by simp)
  have w1 : ∀ y, y ∈ [st, sc, no, bl, ml] → h'[y]? = h[y]? := fun y hy => by
    have n1 := Z.d2.2 y hy
    rw [S.2 y (Z.out hk (by simp only [List.mem_cons, List.not_mem_nil, or_false] at hy ⊢; rcases hy with q | q | q | q | q <;> simp [q])), S0.2 y (by simpa using n1)]
  have L := Z.L
  exact { Z with
    L := by
      obtain ⟨cs, p, q, L⟩ := Z.L
      exact ⟨cs, p, q, { L with hs := (w1 st (by simp)).trans L.hs, hc := (w1 sc (by simp)).trans L.hc }⟩
    O := fun j hj => by
      by_cases q : j = k
      · subst q
        rw [fu_same, fu_same]
        exact O'
      · rw [fu_ne a a' q, fu_ne ts ts' q]
        have O1 := (Z.O j hj).keep S0.keep (Z.off hj)
        exact (O1.keep S.keep (Z.dj j k hj hk q)).up (by omega)
    Lb := (w1 bl (by simp)).trans Z.Lb
    Lm := (w1 ml (by simp)).trans Z.Lm
    N := (w1 no (by simp)).trans Z.N
    Ls := by
      rw [S.2 sl (Z.out hk (by simp)), get_set Z.Ls]
      rcases (show k = 0 ∨ k = 1 ∨ k = 2 by omega) with q | q | q <;> subst q <;> rfl }
def turn70 : Ss := (forBody b_law).getD .nil
def deed70 : Ss := match turn70 with
  | .cons _ (.cons _ (.cons _ (.cons _ r))) => r
  | _ => .nil
theorem r_deed70 (Z : Tri h st sc no bl sl ml b c e f m t La a names ts i) (l60 : La ≤ 60) (gl : Goes (first t) La) {x : Str} (ox : OkN x) {k : Nat} (hk : k < 3) {w : Int} (w0 : 0 ≤ w) (w1 : w < 6) {m0 : Nat} (hm : m0 < 30) (hi : i < 30) (hD : 141 ≤ D) (v0 v5 v6 v7 v11 v16 : Sl) :
    ∃ h' a' ts' v15' v16', evSs (EV D) deed70 ⟨[v0, .val (.obj st), .val t.v, .val (.obj no), .val (.int La), v5, v6, v7, .val (.obj bl), .val (.obj sl), .val (.obj ml), v11, .val (.int k), .val (.int w), .val (.str x), .val (.int m0), v16], h⟩ =
      .ok .nx ⟨[v0, .val (.obj st), .val t.v, .val (.obj no), .val (.int La), v5, v6, v7, .val (.obj bl), .val (.obj sl), .val (.obj ml), v11, .val (.int k), .val (.int w), .val (.str x), v15', v16'], h'⟩ ∧ Tri h' st sc no bl sl ml b c e f m t La a' names ts' (i + 1) := by
  have O := Z.O k hk
  obtain ⟨n, B, M⟩ := O.B
  have le := O.le
  obtain ⟨mm, hmm⟩ : ∃ mm : Nat, mm = if w < 3 then min m0 (La - a k) else min m0 (a k) := ⟨_, rfl⟩
  have hex : ∃ du : Nat, (w < 3 → du = a k + mm) ∧ (w = 3 → du = a k - mm) ∧ (w = 4 → (tget (ts k) x).getD (.int (a k)) = .int du) ∧ (w = 5 → du = a k) := by
    by_cases q : w = 4
    · cases g : tget (ts k) x with
      | none => exact ⟨a k, fun z => by omega, fun z => by omega, fun _ => rfl, fun _ => rfl⟩
      | some v =>
        obtain ⟨_, j, ej, lj⟩ := M.ok _ (tget_mem g)
        have ej' : v = .int j := ej
        subst ej'
        exact ⟨j, fun z => by omega, fun z => by omega, fun _ => rfl, fun z => by omega⟩
    · by_cases q3 : w < 3
      · exact ⟨a k + mm, fun _ => rfl, fun z => by omega, fun z => by omega, fun z => by omega⟩
      · by_cases q5 : w = 3
        · exact ⟨a k - mm, fun z => by omega, fun _ => rfl, fun z => by omega, fun z => by omega⟩
        · exact ⟨a k, fun z => by omega, fun z => by omega, fun z => by omega, fun z => rfl⟩
  obtain ⟨du, d1, d3, d4, d5⟩ := hex
  have S0 : Same h (h.set sl (.lst ([.int (a 0), .int (a 1), .int (a 2)].set k (.int du)))) [sl] := same_set (by simp)
  have O1 := O.keep S0.keep (Z.off hk)
  obtain ⟨h2, a2, ts2, r2, O2, S2, e1, e3, e4, e5⟩ := r_ldone (D := D) O1 l60 gl ox w0 w1 (mm := mm) (fun z => by rw [if_pos z] at hmm; omega) (fun z => by rw [if_neg (by omega)] at hmm; omega) (by omega) (by omega)
  have ea : a2 = du := by
    rcases (show w < 3 ∨ w = 3 ∨ w = 4 ∨ w = 5 by omega) with z | z | z | z
    · rw [e1 z, d1 z]
    · rw [e3 z, d3 z]
    · have := (e4 z).symm.trans (d4 z)
      have := PV.int.inj this
      omega
    · rw [e5 z, d5 z]
  subst ea
  have Z2 := Z.deed hk O2 S2
  have r3 := r_lright (D := D) Z2 (by omega) (by omega)
  have i1 : ∀ h0 : Hb, h0[bl]? = some (.lst [.obj (b 0), .obj (b 1), .obj (b 2)]) → evIx h0 (.obj bl) (.int k) = some (.obj (b k)) := fun h0 q => by
    rw [ix_obj q, atI_nat]
    rcases (show k = 0 ∨ k = 1 ∨ k = 2 by omega) with z | z | z <;> subst z <;> rfl
  have i2 : evIx h (.obj sl) (.int k) = some (.int (a k)) := by
    rw [ix_obj Z.Ls, atI_nat]
    rcases (show k = 0 ∨ k = 1 ∨ k = 2 by omega) with z | z | z <;> subst z <;> rfl
  have i3 : ∀ h0 : Hb, h0[ml]? = some (.lst [.obj (m 0), .obj (m 1), .obj (m 2)]) → evIx h0 (.obj ml) (.int k) = some (.obj (m k)) := fun h0 q => by
    rw [ix_obj q, atI_nat]
    rcases (show k = 0 ∨ k = 1 ∨ k = 2 by omega) with z | z | z <;> subst z <;> rfl
  have j1 := i1 _ ((S0.2 bl (by have := Z.d2.2 bl (by simp); simpa using this)).trans Z.Lb)
  have j3 := i3 _ ((S0.2 ml (by have := Z.d2.2 ml (by simp); simpa using this)).trans Z.Lm)
  have i3 := i3 _ Z.Lm
  have p1 := fun sl' => putI_obj (sl := sl') (v := .int a2) (i := (k : Int)) (j := k) Z.Ls rfl (by simp; omega)
  have ia := asD_obj O.G
  have ig := get_dic (x := x) (v := .int (a k)) O.G
  refine ⟨h2, _, _, .val (.int mm), .val (.int a2), ?_, Z2⟩
  rcases (show w < 3 ∨ w = 3 ∨ w = 4 ∨ w = 5 by omega) with z | z | z | z
  · rw [if_pos z] at hmm
    have x1 : min (m0 : Int) ((La : Int) - (a k : Int)) = (mm : Int) := by omega
    have x2 : (a k : Int) + (mm : Int) = (a2 : Int) := by have := d1 z; omega
    have x3 : ¬ 3 < w := by omega
    simp [deed70, turn70, forBody, b_law, z, i2, x1, x2, x3, p1, j1, j3, r2, r3]
  · subst z
    rw [if_neg (by omega)] at hmm
    have x1 : min (m0 : Int) (a k : Int) = (mm : Int) := by omega
    have x2 : (a k : Int) - (mm : Int) = (a2 : Int) := by have := d3 rfl; omega
    simp [deed70, turn70, forBody, b_law, i2, x1, x2, p1, j1, j3, r2, r3]
  · subst z
    rw [if_neg (by omega)] at hmm
    have x1 : min (m0 : Int) (a k : Int) = (mm : Int) := by omega
    rw [d4 rfl] at ig
    simp [deed70, turn70, forBody, b_law, i2, i3, ia, ig, x1, p1, j1, j3, r2, r3]
  · subst z
    rw [if_neg (by omega)] at hmm
    have x1 : min (m0 : Int) (a k : Int) = (mm : Int) := by omega
    have x2 : a2 = a k := d5 rfl
    rw [x2] at p1 r2 j1 j3
    simp [deed70, turn70, forBody, b_law, i2, x1, x2, p1, j1, j3, r2, r3]
end U
namespace U
open PySem L2
variable {D : Nat} {h h' : Hb} {st sc no bl sl ml La i : Nat} {b c e f m a : Nat → Nat} {t : Tm} {ts : Nat → Ties} {names : List Str}
theorem ix_330 {k : Int} (h0 : 0 ≤ k) (h1 : k < 2) : ∃ w : Int, 0 < w ∧ w ≤ 30 ∧ ∀ h, evIx h (.lst [.int 3, .int 30]) (.int k) = some (.int w) := by
  have : k = 0 ∨ k = 1 := by omega
  rcases this with e | e <;> subst e
  · exact ⟨3, by omega, by omega, fun h => by simp⟩
  · exact ⟨30, by omega, by omega, fun h => by simp⟩
theorem turn70_eq : turn70 = Ss.cons (S.set 12 (E.call 301 (Es.cons (E.var 1) (Es.cons (E.int 3) Es.nil)))) (Ss.cons (S.set 13 (E.call 301 (Es.cons (E.var 1) (Es.cons (E.int 6) Es.nil)))) (Ss.cons (S.set 14 (E.ix (E.var 3) (E.call 301 (Es.cons (E.var 1) (Es.cons (E.int 4) Es.nil))))) (Ss.cons (S.set 15 (E.call 301 (Es.cons (E.var 1) (Es.cons (E.ix (E.lst (LE.disp (Es.cons (E.int 3) (Es.cons (E.int 30) Es.nil)))) (E.call 301 (Es.cons (E.var 1) (Es.cons (E.int 2) Es.nil)))) Es.nil)))) deed70))) := rfl
theorem r_turn70 (Z : Tri h st sc no bl sl ml b c e f m t La a names ts i) (l60 : La ≤ 60) (gl : Goes (first t) La) (hi : i < 30) (hD : 141 ≤ D) (v0 v5 v6 v7 v11 v12 v13 v14 v15 v16 : Sl) :
    ∃ h' a' ts' v12' v13' v14' v15' v16', evSs (EV D) turn70 ⟨[v0, .val (.obj st), .val t.v, .val (.obj no), .val (.int La), v5, v6, v7, .val (.obj bl), .val (.obj sl), .val (.obj ml), v11, v12, v13, v14, v15, v16], h⟩ =
      .ok .nx ⟨[v0, .val (.obj st), .val t.v, .val (.obj no), .val (.int La), v5, v6, v7, .val (.obj bl), .val (.obj sl), .val (.obj ml), v11, v12', v13', v14', v15', v16'], h'⟩ ∧ Tri h' st sc no bl sl ml b c e f m t La a' names ts' (i + 1) := by
  obtain ⟨k, ha, e1, k0, k1, L1, S1⟩ := r_draw (D := D) Z.L (z := 3) (by omega) (by omega) (by omega)
  have Z1 := Z.same S1 L1
  obtain ⟨w, hb, e2, w0, w1, L2, S2⟩ := r_draw (D := D) L1 (z := 6) (by omega) (by omega) (by omega)
  have Z2 := Z1.same S2 L2
  have ln := Z.Ln.1
  obtain ⟨q, hc, e3, q0, q1, L3, S3⟩ := r_draw (D := D) L2 (z := 4) (by omega) (by omega) (by omega)
  have Z3 := Z2.same S3 L3
  obtain ⟨x, hx, ex⟩ := atI_strs names q0 (by omega)
  have i3 := ix_obj (i := q) Z3.N
  rw [ex] at i3
  obtain ⟨p, hd, e4, p0, p1, L4, S4⟩ := r_draw (D := D) L3 (z := 2) (by omega) (by omega) (by omega)
  have Z4 := Z3.same S4 L4
  obtain ⟨z, z0, z1, iz⟩ := ix_330 p0 p1
  obtain ⟨m0, he, e5, m0', m1, L5, S5⟩ := r_draw (D := D) L4 (z := z) z0 (by omega) (by omega)
  have Z5 := Z4.same S5 L5
  obtain ⟨m0, rfl⟩ := Int.eq_ofNat_of_zero_le m0'
  obtain ⟨k, rfl⟩ := Int.eq_ofNat_of_zero_le k0
  obtain ⟨h6, a', ts', v15', v16', r6, Z6⟩ := r_deed70 (D := D) Z5 l60 gl (Z.Ln.2 x hx) (k := k) (by omega) w0 w1 (m0 := m0) (by omega) hi hD v0 v5 v6 v7 v11 v16
  refine ⟨h6, a', ts', .val (.int k), .val (.int w), .val (.str x), v15', v16', ?_, Z6⟩
  rw [← r6, turn70_eq]
  generalize deed70 = r
  simp [e1, e2, e3, i3, e4, iz, e5]
theorem r_turns70 (l60 : La ≤ 60) (gl : Goes (first t) La) (hD : 141 ≤ D) (v0 v5 v6 v7 : Sl) : ∀ (as : List PV) {h : Hb} {a : Nat → Nat} {i : Nat} {ts : Nat → Ties} (v11 v12 v13 v14 v15 v16 : Sl), i + as.length ≤ 29 → Tri h st sc no bl sl ml b c e f m t La a names ts i →
    ∃ h' v11' v12' v13' v14' v15' v16', forN (forB (EV D) (Tg.n 11) turn70) as ⟨[v0, .val (.obj st), .val t.v, .val (.obj no), .val (.int La), v5, v6, v7, .val (.obj bl), .val (.obj sl), .val (.obj ml), v11, v12, v13, v14, v15, v16], h⟩ =
      .ok .nx ⟨[v0, .val (.obj st), .val t.v, .val (.obj no), .val (.int La), v5, v6, v7, .val (.obj bl), .val (.obj sl), .val (.obj ml), v11', v12', v13', v14', v15', v16'], h'⟩ := by
  intro as
  induction as with
  | nil => intro h a i ts v11 v12 v13 v14 v15 v16 _ Z; exact ⟨h, v11, v12, v13, v14, v15, v16, rfl⟩
  | cons x r ih =>
    intro h a i ts v11 v12 v13 v14 v15 v16 hl Z
    rw [List.length_cons] at hl
    obtain ⟨h1, a1, ts1, w12, w13, w14, w15, w16, r1, Z1⟩ := r_turn70 (D := D) Z l60 gl (by omega) hD v0 v5 v6 v7 (.val x) v12 v13 v14 v15 v16
    obtain ⟨h2, u11, u12, u13, u14, u15, u16, r2⟩ := ih (.val x) w12 w13 w14 w15 w16 (by omega) Z1
    refine ⟨h2, u11, u12, u13, u14, u15, u16, ?_⟩
    rw [forN, forB_eq]
    simp only [asg_n, oI_s, set_mk, List.set_cons_succ, List.set_cons_zero, r1]
    exact r2
end U
namespace U
open PySem L2
variable {h : Hb}
theorem range0_len (n : Nat) (i : Int) : (range0 n i).length = n := by rw [range0_map, List.length_map, List.length_range]
def tri {α : Type} (x y z : α) : Nat → α
  | 0 => x
  | 1 => y
  | _ => z
theorem tri_all {P : Nat → Prop} (h0 : P 0) (h1 : P 1) (h2 : P 2) : ∀ k, k < 3 → P k := fun k hk => by
  rcases (show k = 0 ∨ k = 1 ∨ k = 2 by omega) with z | z | z <;> subst z <;> assumption
theorem tri_dj {o : Nat} : ∀ j k, j < 3 → k < 3 → j ≠ k → ∀ x ∈ [tri o (o + 4) (o + 12) j, tri (o + 1) (o + 8) (o + 16) j, tri (o + 2) (o + 9) (o + 17) j, tri (o + 3) (o + 10) (o + 18) j, tri (o + 20) (o + 21) (o + 22) j],
    x ∉ [tri o (o + 4) (o + 12) k, tri (o + 1) (o + 8) (o + 16) k, tri (o + 2) (o + 9) (o + 17) k, tri (o + 3) (o + 10) (o + 18) k, tri (o + 20) (o + 21) (o + 22) k] := by
  have A : ∀ k, k < 3 → ∀ x ∈ [tri o (o + 4) (o + 12) k, tri (o + 1) (o + 8) (o + 16) k, tri (o + 2) (o + 9) (o + 17) k, tri (o + 3) (o + 10) (o + 18) k, tri (o + 20) (o + 21) (o + 22) k], ∃ y ∈ [tri 0 4 12 k, tri 1 8 16 k, tri 2 9 17 k, tri 3 10 18 k, tri 20 21 22 k], x = o + y := by
    intro k hk x hx
    rcases (show k = 0 ∨ k = 1 ∨ k = 2 by omega) with z | z | z <;> subst z <;> simpa [tri] using hx
  have Bd : ∀ j, j < 3 → ∀ k, k < 3 → j ≠ k → ∀ x ∈ [tri 0 4 12 j, tri 1 8 16 j, tri 2 9 17 j, tri 3 10 18 j, tri 20 21 22 j], x ∉ [tri 0 4 12 k, tri 1 8 16 k, tri 2 9 17 k, tri 3 10 18 k, tri 20 21 22 k] := by
    intro j hj k hk hjk
    rcases (show j = 0 ∨ j = 1 ∨ j = 2 by omega) with z | z | z <;> rcases (show k = 0 ∨ k = 1 ∨ k = 2 by omega) with z' | z' | z' <;> subst z z' <;> first | exact absurd rfl hjk | (simp [tri])
  intro j k hj hk hjk x hx hx2
  obtain ⟨y, hy, e⟩ := A j hj x hx
  obtain ⟨z, hz, e2⟩ := A k hk x hx2
  have : y = z := by omega
  subst this
  exact Bd j hj k hk hjk y hy hz
theorem tri_dx {o st sc no : Nat} (h1 : st < o) (h2 : sc < o) (h3 : no < o) : ∀ k, k < 3 → ∀ x ∈ [tri o (o + 4) (o + 12) k, tri (o + 1) (o + 8) (o + 16) k, tri (o + 2) (o + 9) (o + 17) k, tri (o + 3) (o + 10) (o + 18) k, tri (o + 20) (o + 21) (o + 22) k], x ∉ [st, sc, no, o + 11, o + 19, o + 23] := by
  have A : ∀ k, k < 3 → ∀ x ∈ [tri o (o + 4) (o + 12) k, tri (o + 1) (o + 8) (o + 16) k, tri (o + 2) (o + 9) (o + 17) k, tri (o + 3) (o + 10) (o + 18) k, tri (o + 20) (o + 21) (o + 22) k], ∃ y ∈ [tri 0 4 12 k, tri 1 8 16 k, tri 2 9 17 k, tri 3 10 18 k, tri 20 21 22 k], x = o + y := by
    intro k hk x hx
    rcases (show k = 0 ∨ k = 1 ∨ k = 2 by omega) with z | z | z <;> subst z <;> simpa [tri] using hx
  have Bd : ∀ k, k < 3 → ∀ x ∈ [tri 0 4 12 k, tri 1 8 16 k, tri 2 9 17 k, tri 3 10 18 k, tri 20 21 22 k], x ∉ [11, 19, 23] := by
    intro k hk
    rcases (show k = 0 ∨ k = 1 ∨ k = 2 by omega) with z | z | z <;> subst z <;> simp [tri]
  intro k hk x hx hx2
  obtain ⟨y, hy, e⟩ := A k hk x hx
  have b := Bd k hk y hy
  simp only [List.mem_cons, List.not_mem_nil, or_false, not_or] at hx2 b
  obtain ⟨b1, b2, b3⟩ := b
  rcases hx2 with q | q | q | q | q | q <;> omega
/-- the law -/
theorem law70 (ns : List Int) (hl : ns.length ≤ 1000) : ∃ h', RUN 200 313 [.lst (ns.map .int)] [] = .ok (.bl true) h' := by
  obtain ⟨st, sc, h1, e1, L1⟩ := r_state (D := 199) ns hl (by omega)
  obtain ⟨_, h2, e2, ⟨t, rfl, t1, t2, t3⟩, L2, S2⟩ := r_term (D := 199) L1 (by omega)
  have cl : Cl0 t := ⟨t1, t2, by omega⟩
  have e3 := r_term_of t (D := 199) (h := h2) (by omega) t1
  obtain ⟨h3, names, e4, L3, N3, ln, on, K3⟩ := r_lmarks (D := 199) L2 (by omega)
  obtain ⟨La, l60, gl, el⟩ := last_ex (first t) 60
  have e5 := r_machine_run (h := h3) (D := 199) cl (most := 60) (k := La) (by omega) gl l60 (by rcases el with z | z; exact .inl z; exact .inr z) (by omega)
  have e6 := fun sl => mkH_bench (h := h3) (D := 199) cl (by omega) sl
  have B4 := newBench_at (h := h3) cl
  obtain ⟨cs, p0, p1, L3'⟩ := L3
  have lst := lt_of_some L3'.hs
  have lsc := lt_of_some L3'.hc
  have lno := lt_of_some N3
  have L4 : LSt (newBench h3 t) st sc := ⟨cs, p0, p1, { L3' with hs := newBench_old L3'.hs, hc := newBench_old L3'.hc }⟩
  have N4 : (newBench h3 t)[h2.length]? = _ := newBench_old N3
  have F4 : (newBench h3 t)[h3.length + 3]? = some (.dic (kvs [])) := app_get h3 _ 3
  have l4 : (newBench h3 t).length = h3.length + 4 := by simp [newBench]
  have l2 : st < h2.length ∧ sc < h2.length := by obtain ⟨cs, p0, p1, L⟩ := L2; exact ⟨lt_of_some L.hs, lt_of_some L.hc⟩
  generalize newBench h3 t = h4 at *
  generalize ho : h3.length = o at *
  generalize hno : h2.length = no at *
  have A : (∀ j, ¬ st = o + j) ∧ (∀ j, ¬ o + j = st) ∧ ¬ st = o ∧ ¬ o = st ∧ (∀ j, ¬ sc = o + j) ∧ (∀ j, ¬ o + j = sc) ∧ ¬ sc = o ∧ ¬ o = sc ∧ (∀ j, ¬ no = o + j) ∧ (∀ j, ¬ o + j = no) ∧ ¬ no = o ∧ ¬ o = no ∧ ¬ no = st ∧ ¬ st = no ∧ ¬ no = sc ∧ ¬ sc = no :=
    ⟨fun j => by omega, fun j => by omega, by omega, by omega, fun j => by omega, fun j => by omega, by omega, by omega, fun j => by omega, fun j => by omega, by omega, by omega, by omega, by omega, by omega, by omega⟩
  -- forth
  obtain ⟨k1, h5, e7, a1, b1, L5, S5⟩ := r_draw (D := 199) L4 (z := 20) (by omega) (by omega) (by omega)
  obtain ⟨k1, rfl⟩ := Int.eq_ofNat_of_zero_le a1
  have B5 := B4.same S5 (by simp [A]) (by simp [A]) (by simp [A])
  have F5 := (S5.2 (o + 3) (by simp [A])).trans F4
  have N5 := (S5.2 no (by simp [A])).trans N4
  obtain ⟨g, hg⟩ : ∃ g, g = min La k1 := ⟨_, rfl⟩
  have xg : min (La : Int) (k1 : Int) = (g : Int) := by omega
  obtain ⟨h6, n, e8, B6, S6, _⟩ := r_forth (D := 199) B5 (many := g) (k := g) (by omega) (Nat.le_refl _) (by omega) (gl.mono (by omega)) (.inl rfl) (by omega)
  rw [Nat.zero_add] at B6
  have m7 := says_bench B5 59 220 rfl
  have F6 := (S6.2 (o + 3) (by simp)).trans F5
  have N6 := (S6.2 no (by simp [A])).trans N5
  have L6 := L5.same S6 (by simp [A]) (by simp [A])
  -- marked
  obtain ⟨x, rr, ex⟩ : ∃ x rr, names = x :: rr := by
    cases names with
    | nil => simp at ln
    | cons x r => exact ⟨x, r, rfl⟩
  have ox := on x (by rw [ex]; exact List.mem_cons_self)
  have i6 : ∀ h0 : Hb, h0[no]? = some (.lst (names.map .str)) → evIx h0 (.obj no) (.int 0) = some (.str x) := fun h0 q => by
    rw [ix_obj q, atI_0, ex]
    rfl
  have j6 := i6 _ N6
  have e9 := r_bmark (D := 199) B6 F6 (by simp) ox (by omega)
  have m8 := says_bench B6 64 229 rfl
  have ets : tput [] x (.int g) = [(x, .int g)] := rfl
  rw [ets] at e9
  have M6 : MOk [(x, .int g)] n := by rw [← ets]; exact MOk.nil.put ox B6.le
  have ML : MOk [(x, .int g)] La := by rw [← ets]; exact MOk.nil.put ox (by omega)
  have S7 : Same h6 (h6.set (o + 3) (.dic (kvs [(x, .int g)]))) [o + 3] := same_set (by simp)
  have F7 : (h6.set (o + 3) (.dic (kvs [(x, .int g)])))[o + 3]? = _ := get_set F6
  generalize h6.set (o + 3) (.dic (kvs [(x, .int g)])) = h7 at *
  have B7 := B6.same S7 (by simp) (by simp) (by simp)
  have N7 := (S7.2 no (by simp [A])).trans N6
  have L7 := L6.same S7 (by simp [A]) (by simp [A])
  -- and back
  obtain ⟨k2, h8, e10, a2, b2, L8, S8⟩ := r_draw (D := 199) L7 (z := 3) (by omega) (by omega) (by omega)
  obtain ⟨k2, rfl⟩ := Int.eq_ofNat_of_zero_le a2
  have B8 := B7.same S8 (by simp [A]) (by simp [A]) (by simp [A])
  have F8 := (S8.2 (o + 3) (by simp [A])).trans F7
  have N8 := (S8.2 no (by simp [A])).trans N7
  obtain ⟨q, hq⟩ : ∃ q, q = min g k2 := ⟨_, rfl⟩
  have xq : min (g : Int) (k2 : Int) = (q : Int) := by omega
  obtain ⟨h9, e11, B9, S9⟩ := r_back (D := 199) B8 (many := q) (by omega)
  have m9 := says_bench B8 61 222 rfl
  have xq2 : min (q : Int) (g : Int) = (q : Int) := by omega
  rw [Nat.min_eq_left (by omega)] at B9
  have F9 := (S9.2 (o + 3) (by simp)).trans F8
  have N9 := (S9.2 no (by simp [A])).trans N8
  have L9 := L8.same S9 (by simp [A]) (by simp [A])
  have l9 : h9.length = o + 4 := by rw [S9.1, S8.1, S7.1, S6.1, S5.1, l4]
  obtain ⟨v, hv⟩ : ∃ v, v = g - q := ⟨_, rfl⟩
  rw [← hv] at B9
  have xv : (g : Int) - (q : Int) = (v : Int) := by omega
  -- the twin
  have e12 := r_btwin (D := 199) B9 F9 (by omega)
  have m10 := says_bench B9 54 232 rfl
  have B10 := twin_at (ts := [(x, .int g)]) B9
  have F10 : (twinH h9 t n v [(x, .int g)])[h9.length + 6]? = some (.dic (kvs [(x, .int g)])) := app_get h9 _ 6
  have K10 : Keep h9 (twinH h9 t n v [(x, .int g)]) [] := fun x _ o z => get_app z _
  have l10 : (twinH h9 t n v [(x, .int g)]).length = h9.length + 7 := by simp [twinH]
  rw [l9] at B10 F10 l10 e12
  generalize twinH h9 t n v [(x, .int g)] = h10 at *
  -- the list, the twin's twin
  have n11 : ∀ sl, newO ⟨sl, h10⟩ (.lst [.obj o, .obj (o + 4)]) = .ok (.obj (o + 11)) ⟨sl, h10 ++ [.lst [.obj o, .obj (o + 4)]]⟩ := fun sl => by unfold newO; dsimp only; rw [l10]
  have K11 : Keep h10 (h10 ++ [.lst [.obj o, .obj (o + 4)]]) [] := fun x _ o z => get_app z _
  have P11 : (h10 ++ [HB.lst [.obj o, .obj (o + 4)]])[h10.length]? = some (.lst [.obj o, .obj (o + 4)]) := app_get h10 _ 0
  have l11 : (h10 ++ [HB.lst [.obj o, .obj (o + 4)]]).length = o + 12 := by simp [l10]
  rw [l10] at P11
  generalize h10 ++ [HB.lst [.obj o, .obj (o + 4)]] = h11 at *
  have B11 := B10.keep K11 (by simp) (by simp) (by simp)
  have F11 := K11 _ (by simp) _ F10
  have e13 := r_btwin (D := 199) B11 F11 (by omega)
  have m11 := says_bench B11 54 232 rfl
  have i11 : evIx h11 (.obj (o + 11)) (.int 1) = some (.obj (o + 4)) := by rw [ix_obj P11]; rfl
  have B12 := twin_at (ts := [(x, .int g)]) B11
  have F12 : (twinH h11 t n v [(x, .int g)])[h11.length + 6]? = some (.dic (kvs [(x, .int g)])) := app_get h11 _ 6
  have K12 : Keep h11 (twinH h11 t n v [(x, .int g)]) [] := fun x _ o z => get_app z _
  have l12 : (twinH h11 t n v [(x, .int g)]).length = h11.length + 7 := by simp [twinH]
  rw [l11] at B12 F12 l12 e13
  generalize twinH h11 t n v [(x, .int g)] = h12 at *
  have P12 := K12 _ (by simp) _ P11
  have a12 : ∀ sl, mutO .append (.obj (o + 11)) [.obj (o + 12)] ⟨sl, h12⟩ = .ok .non ⟨sl, h12.set (o + 11) (.lst [.obj o, .obj (o + 4), .obj (o + 12)])⟩ := fun sl =>
    mutO_obj P12 (by rw [app_l (le_sz (by simp))]; rfl)
  have il := isLst_obj P11
  have il2 := isLst_obj P12
  have S13 : Same h12 (h12.set (o + 11) (.lst [.obj o, .obj (o + 4), .obj (o + 12)])) [o + 11] := same_set (by simp)
  have P13 : (h12.set (o + 11) (.lst [.obj o, .obj (o + 4), .obj (o + 12)]))[o + 11]? = _ := get_set P12
  generalize h12.set (o + 11) (.lst [.obj o, .obj (o + 4), .obj (o + 12)]) = h13 at *
  have l13 : h13.length = o + 19 := by rw [S13.1, l12]
  -- where they stand, and the marks
  have ad : ∀ (hp : Hb) (ob : HB) (l : Nat), hp.length = l → ∃ hq, (∀ sl, newO ⟨sl, hp⟩ ob = .ok (.obj l) ⟨sl, hq⟩) ∧ Keep hp hq [] ∧ hq[l]? = some ob ∧ hq.length = l + 1 := fun hp ob l e => by
    subst e
    exact ⟨hp ++ [ob], fun sl => rfl, fun x _ o z => get_app z _, app_get hp [ob] 0, by simp⟩
  obtain ⟨h14, n14, K14, P14, l14⟩ := ad h13 (.lst [.int v, .int v, .int v]) _ l13
  obtain ⟨h15, n15, K15, P15, l15⟩ := ad h14 (.dic (kvs [(x, .int g)])) _ l14
  obtain ⟨h16, n16, K16, P16, l16⟩ := ad h15 (.dic (kvs [(x, .int g)])) _ l15
  obtain ⟨h17, n17, K17, P17, l17⟩ := ad h16 (.dic (kvs [(x, .int g)])) _ l16
  obtain ⟨h18, n18, K18, P18, l18⟩ := ad h17 (.lst [.obj (o + 20), .obj (o + 21), .obj (o + 22)]) _ l17
  have K13 : Keep h13 h18 [] := (((K14.trans K15).trans K16).trans K17).trans K18
  have K9 : Keep h9 h18 [o + 11] := fun y hy ob z => K13 y List.not_mem_nil ob ((S13.2 y hy).trans (K12 y (by simp) ob (K11 y (by simp) ob (K10 y (by simp) ob z))))
  have K10' : Keep h10 h18 [o + 11] := fun y hy ob z => K13 y List.not_mem_nil ob ((S13.2 y hy).trans (K12 y (by simp) ob (K11 y (by simp) ob z)))
  have K12' : Keep h12 h18 [o + 11] := fun y hy ob z => K13 y List.not_mem_nil ob ((S13.2 y hy).trans z)
  have O0 : One h18 o (o + 1) (o + 2) (o + 3) (o + 20) t La v [(x, .int g)] 1 :=
    ⟨⟨n, B9.keep K9 (by simp) (by simp) (by simp), M6⟩, K9 _ (by simp) _ F9, (((K16.trans K17).trans K18) _ (by simp) _ P15), by omega, by simp, ML, by simp⟩
  have O1 : One h18 (o + 4) (o + 8) (o + 9) (o + 10) (o + 21) t La v [(x, .int g)] 1 :=
    ⟨⟨n, B10.keep K10' (by simp) (by simp) (by simp), M6⟩, K10' _ (by simp) _ F10, ((K17.trans K18) _ (by simp) _ P16), by omega, by simp, ML, by simp⟩
  have O2 : One h18 (o + 12) (o + 16) (o + 17) (o + 18) (o + 22) t La v [(x, .int g)] 1 :=
    ⟨⟨n, B12.keep K12' (by simp) (by simp) (by simp), M6⟩, K12' _ (by simp) _ F12, (K18 _ (by simp) _ P17), by omega, by simp, ML, by simp⟩
  have Z : Tri h18 st sc no (o + 11) (o + 19) (o + 23) (tri o (o + 4) (o + 12)) (tri (o + 1) (o + 8) (o + 16)) (tri (o + 2) (o + 9) (o + 17)) (tri (o + 3) (o + 10) (o + 18)) (tri (o + 20) (o + 21) (o + 22)) t La (tri v v v) names (tri [(x, .int g)] [(x, .int g)] [(x, .int g)]) 1 :=
    { L := L9.keep K9 (by simp [A]) (by simp [A])
      O := tri_all O0 O1 O2
      Ln := ⟨ln, on⟩
      Lb := K13 _ (by simp) _ P13
      Ls := (((K15.trans K16).trans K17).trans K18) _ (by simp) _ P14
      Lm := P18
      N := K9 _ (by simp [A]) _ N9
      dj := tri_dj
      dx := tri_dx lst lsc lno
      d2 := ⟨fun y hy => by simp at hy; rcases hy with z | z | z | z <;> subst z <;> simp [A], fun y hy => by simp at hy; rcases hy with z | z | z | z | z <;> subst z <;> simp [A]⟩ }
  have e14 := r_lright (D := 199) Z (by omega) (by omega)
  obtain ⟨h19, u11, u12, u13, u14, u15, u16, e15⟩ := r_turns70 (D := 199) l60 gl (by omega) (.val (.lst (ns.map .int))) (.val (.obj o)) (.val (.int g)) (.val (.int q)) (range0 (min 14 (3 + (ns.length : Int))).toNat 0) (i := 1) .un .un .un .un .un .un (by rw [range0_len]; omega) Z
  have hr := fun fs => rng1R_i (fs := fs) (n := min 14 (3 + (ns.length : Int))) (by omega)
  have rp : ∀ fs, repR (.lst [.int v]) (.int 3) fs = .ok [.int v, .int v, .int v] fs := fun fs => by unfold repR; rfl
  have dp : ∀ fs, dispR [(.inr x, .int g)] fs = .ok (kvs [(x, .int g)]) fs := fun fs => rfl
  have j12 := i6 _ (K9 _ (by simp [A]) _ N9)
  have w14 := i6 h14 ((K14 _ (by simp) _ ((S13.2 no (by simp [A])).trans (K12 _ (by simp) _ (K11 _ (by simp) _ (K10 _ (by simp) _ N9))))))
  have w15 := i6 h15 (K15 _ (by simp) _ ((K14 _ (by simp) _ ((S13.2 no (by simp [A])).trans (K12 _ (by simp) _ (K11 _ (by simp) _ (K10 _ (by simp) _ N9)))))))
  have w16 := i6 h16 (K16 _ (by simp) _ (K15 _ (by simp) _ ((K14 _ (by simp) _ ((S13.2 no (by simp [A])).trans (K12 _ (by simp) _ (K11 _ (by simp) _ (K10 _ (by simp) _ N9))))))))
  unfold turn70 b_law at e15
  simp only [forBody, Option.getD_some] at e15
  refine ⟨h19, ?_⟩
  rw [show (200 : Nat) = 199 + 1 from rfl, R_law]
  simp at e5 e15
  simp [b_law, e1, e2, e3, e4, e5, e6, e7, xg, m7, e8, j6, m8, e9, e10, xq, m9, e11, xq2, m10, e12, n11, i11, m11, e13, il, il2, a12, xv, rp, n14, w14, dp, n15, w15, n16, w16, n17, n18, e14, hr, e15]
end U
set_option maxHeartbeats 0
namespace U
open PySem PySem.Spec L2 PyProof.Rows
theorem lk_mem {α : Type} {v : α} {j : Nat} : ∀ {l : List (Nat × α)}, lk l j = some v → (j, v) ∈ l
  | [], e => by cases e
  | (k, u) :: r, e => by
    rw [lk] at e
    cases q : Nat.beq k j with
    | true =>
      rw [q] at e
      have := Nat.eq_of_beq_eq_true q
      subst this
      cases e
      exact List.mem_cons_self
    | false =>
      rw [q] at e
      exact List.mem_cons_of_mem _ (lk_mem e)
theorem lk_in {α : Type} {v : α} {j : Nat} {l : List (Nat × α)} {ks : List Nat} (h : (l.all fun q => ks.contains q.1) = true) (e : lk l j = some v) : j ∈ ks := by
  have := List.all_eq_true.mp h _ (lk_mem e)
  exact List.contains_iff_mem.mp this
theorem hcs : ∀ c cl, wd.G.cls c = some cl → c ∈ cidL := fun c cl e => lk_in (by decide +kernel) (show lk LT_cls c = some cl from e)
theorem hgs : ∀ g x, wd.G.gcs g = some x → g ∈ gcL := fun g x e => lk_in (by decide +kernel) (show lk LT_gcs g = some x from e)
theorem hfs : ∀ f fd, wd.G.fns f = some fd → f ∈ fidL := fun f fd e => lk_in (by decide +kernel) (show lk LT_fns f = some fd from e)
theorem hms0 : (LM_meth.all fun q => (t_cls q.1).isSome && q.2.all fun r => methL.contains (q.1, r.1)) = true := by decide +kernel
theorem hms : ∀ c m f, wd.G.meth c m = some f → (c, m) ∈ methL ∧ (wd.G.cls c).isSome = true := fun c m f e => by
  have e : (lk LM_meth c).bind (fun l => lk l m) = some f := e
  cases q : lk LM_meth c with
  | none => rw [q] at e; cases e
  | some l =>
    rw [q] at e
    obtain ⟨h1, h2⟩ := He.ba (List.all_eq_true.mp hms0 _ (lk_mem q))
    exact ⟨List.contains_iff_mem.mp (List.all_eq_true.mp h2 _ (lk_mem e)), h1⟩
theorem hx0 : (LT_cls.all fun q => !q.2.exc || q.2.flds.isEmpty) = true := by decide +kernel
theorem hxc : ∀ cc cl, wd.G.cls cc = some cl → cl.exc = true → cl.flds = [] := fun c cl e ex => by
  have q := List.all_eq_true.mp hx0 _ (lk_mem (show lk LT_cls c = some cl from e))
  dsimp only at q
  rw [ex] at q
  exact List.isEmpty_iff.mp q
def mOf (f : Nat) : Bool := match tab.fns f, places f with
  | some fd, some (i, j, N, P) => match infoAt i j with
    | some (_, _, b, sc) => okB wd fd N P sc b
    | none => false
  | _, _ => false
theorem allM : (fidL.all mOf) = true := by decide +kernel
/-- a def's parameters -/
def parm (f : Nat) : Arguments := match places f with
  | some (i, j, _) => (match infoAt i j with
    | some q => q.2.1
    | none => ⟨[], [], none, [], [], none, []⟩)
  | none => ⟨[], [], none, [], [], none, []⟩
def pnam (f : Nat) : List Str := match places f with
  | some (_, _, _, P) => P
  | none => []
def spec : List Nat := [220, 222]
def plD (f : Nat) : Bool := spec.contains f || (match tab.fns f with
  | some fd => fd.dfl.isEmpty && ((wd.kw f).isEmpty && (plainP (pnam f) (parm f) && decide (pnam f).Nodup))
  | none => false)
theorem allPn : (fidL.all plD) = true := by decide +kernel
section
variable {w : World} {h : Heap} {K : PySem.W.Frag} {mg : Str → Option Value}
theorem defInfo (c : SaysU wd fnl cidL methL fidL gcL w h K) {fno : Nat} {fd : Fd} (g : tab.fns fno = some fd) :
    ∃ n b sc fdata N, FunD K n (qualOf (wd.fat fno)) (parm fno) b sc ((fd.dfl.map dvOf).map (He.Dv.v K)) [] (fa wd K fno) fdata ∧ okB wd fd N (pnam fno) sc b = true := by
  have hf := hfs fno fd g
  have m := List.all_eq_true.mp allM _ hf
  unfold mOf at m
  rw [g] at m
  cases ep : places fno with
  | none => rw [ep] at m; cases m
  | some pq =>
    obtain ⟨i, j, N, P⟩ := pq
    rw [ep] at m
    cases ei : infoAt i j with
    | none => dsimp only at m; rw [ei] at m; cases m
    | some q =>
      obtain ⟨n, params, b, sc⟩ := q
      dsimp only at m
      rw [ei] at m
      have m : okB wd fd N P sc b = true := m
      have dd : ddOf fno = some ⟨wd.fat fno, n, qualOf (wd.fat fno), params, b, sc, fd.dfl.map dvOf, []⟩ := by
        unfold ddOf
        rw [ep, g]
        dsimp only
        rw [ei]
        rfl
      have mem : (⟨wd.fat fno, n, qualOf (wd.fat fno), params, b, sc, fd.dfl.map dvOf, []⟩ : He.DefD) ∈ fnl := List.mem_filterMap.mpr ⟨fno, hf, dd⟩
      obtain ⟨fdata, F⟩ := c.def_ mem
      have ePa : parm fno = params := by unfold parm; rw [ep]; dsimp only; rw [ei]
      have ePn : pnam fno = P := by unfold pnam; rw [ep]
      have F : FunD K n (qualOf (wd.fat fno)) params b sc ((fd.dfl.map dvOf).map (He.Dv.v K)) [] (fa wd K fno) fdata := F
      exact ⟨n, b, sc, fdata, N, by rw [ePa]; exact F, by rw [ePn]; exact m⟩
theorem defOk (c : SaysU wd fnl cidL methL fidL gcL w h K) (hB : ∀ (fno : Nat) (fd : Fd) (x qual : Str) (bd : List Stmt) (scope : Scope) (fdata : FuncData), fno ∈ spec → tab.fns fno = some fd → FunD K x qual (parm fno) bd scope ((fd.dfl.map dvOf).map (He.Dv.v K)) [] (fa wd K fno) fdata → Bnd wd w K fdata (pnam fno) (wd.kw fno) fd.dfl) :
    ∀ fno fd, wd.G.fns fno = some fd → DefOk wd K w fno fd := by
  intro fno fd g
  have pl := List.all_eq_true.mp allPn _ (hfs fno fd g)
  have g' : tab.fns fno = some fd := g
  obtain ⟨n, b, sc, fdata, N, F, m⟩ := defInfo c g'
  refine defOk_of F m ?_
  unfold plD at pl
  rcases orb pl with q | q
  · exact hB fno fd n (qualOf (wd.fat fno)) b sc fdata (List.contains_iff_mem.mp q) g' F
  · rw [g'] at q
    obtain ⟨q1, q⟩ := He.ba q
    obtain ⟨q2, q⟩ := He.ba q
    obtain ⟨q3, q4⟩ := He.ba q
    have d0 : fd.dfl = [] := List.isEmpty_iff.mp q1
    rw [d0] at F ⊢
    rw [List.isEmpty_iff.mp q2]
    exact bnd_plain F q3 (of_decide_eq_true q4)
end
theorem parm220 : pnam 220 = [("self" : Str), ("many" : Str)] := by decide +kernel
theorem b220_1 (x qual : Str) (bd : List Stmt) (scope : Scope) (T : Addr) (kV doc pm : Value) (an : Option Addr) (cdv ct : Value) (a0 d0 : Value) : ∃ k, bindArgs (PySem.W.fnOf x qual (parm 220) bd scope (.ref T) kV doc pm an cdv ct) ⟨[a0], []⟩ = seqItems? (.ref T) >>= k ∧ k (some #[d0]) = pure [(("self" : Str), a0), (("many" : Str), d0)] := ⟨_, rfl, by kernel_rfl⟩
theorem b220_2 (x qual : Str) (bd : List Stmt) (scope : Scope) (T : Addr) (kV doc pm : Value) (an : Option Addr) (cdv ct : Value) (a0 a1 d0 : Value) : ∃ k, bindArgs (PySem.W.fnOf x qual (parm 220) bd scope (.ref T) kV doc pm an cdv ct) ⟨[a0, a1], []⟩ = seqItems? (.ref T) >>= k ∧ k (some #[d0]) = pure [(("self" : Str), a0), (("many" : Str), a1)] := ⟨_, rfl, by kernel_rfl⟩
theorem B220 {w : World} {K : PySem.W.Frag} {x qual : Str} {bd : List Stmt} {scope : Scope} {fdata : FuncData} {a : Addr} (F : FunD K x qual (parm 220) bd scope [V.int 1] [] a fdata) : Bnd wd w K fdata (pnam 220) [] [PV.int 1] := by
  rw [parm220]
  refine bnd_dfl F (by simp) rfl (fun S H => .cons (.sc (.int _)) (.nil)) (fun T kV doc pm an cdv ct us its l1 l2 l3 => ?_) (fun q hq T kV doc pm an cdv ct us ws its l1 l2 l3 l4 l5 => ?_)
  · match its, l3 with
    | [d0], _ =>
      match us, l1, l2 with
      | [], _, l2 => simp at l2
      | [a0], _, _ => exact b220_1 ..
      | [a0, a1], _, _ => exact b220_2 ..
      | _ :: _ :: _ :: _, l1, _ => simp at l1
  · cases hq
theorem parm222 : pnam 222 = [("self" : Str), ("many" : Str)] := by decide +kernel
theorem b222_1 (x qual : Str) (bd : List Stmt) (scope : Scope) (T : Addr) (kV doc pm : Value) (an : Option Addr) (cdv ct : Value) (a0 d0 : Value) : ∃ k, bindArgs (PySem.W.fnOf x qual (parm 222) bd scope (.ref T) kV doc pm an cdv ct) ⟨[a0], []⟩ = seqItems? (.ref T) >>= k ∧ k (some #[d0]) = pure [(("self" : Str), a0), (("many" : Str), d0)] := ⟨_, rfl, by kernel_rfl⟩
theorem b222_2 (x qual : Str) (bd : List Stmt) (scope : Scope) (T : Addr) (kV doc pm : Value) (an : Option Addr) (cdv ct : Value) (a0 a1 d0 : Value) : ∃ k, bindArgs (PySem.W.fnOf x qual (parm 222) bd scope (.ref T) kV doc pm an cdv ct) ⟨[a0, a1], []⟩ = seqItems? (.ref T) >>= k ∧ k (some #[d0]) = pure [(("self" : Str), a0), (("many" : Str), a1)] := ⟨_, rfl, by kernel_rfl⟩
theorem B222 {w : World} {K : PySem.W.Frag} {x qual : Str} {bd : List Stmt} {scope : Scope} {fdata : FuncData} {a : Addr} (F : FunD K x qual (parm 222) bd scope [V.int 1] [] a fdata) : Bnd wd w K fdata (pnam 222) [] [PV.int 1] := by
  rw [parm222]
  refine bnd_dfl F (by simp) rfl (fun S H => .cons (.sc (.int _)) (.nil)) (fun T kV doc pm an cdv ct us its l1 l2 l3 => ?_) (fun q hq T kV doc pm an cdv ct us ws its l1 l2 l3 l4 l5 => ?_)
  · match its, l3 with
    | [d0], _ =>
      match us, l1, l2 with
      | [], _, l2 => simp at l2
      | [a0], _, _ => exact b222_1 ..
      | [a0, a1], _, _ => exact b222_2 ..
      | _ :: _ :: _ :: _, l1, _ => simp at l1
  · cases hq
section
variable {w : World} {h : Heap} {K : PySem.W.Frag} {mg : Str → Option Value} {x qual : Str} {bd : List Stmt} {scope : Scope} {fdata : FuncData} {a : Addr}
theorem hB (c : True) : ∀ (fno : Nat) (fd : Fd) (x qual : Str) (bd : List Stmt) (scope : Scope) (fdata : FuncData), fno ∈ spec → tab.fns fno = some fd → FunD K x qual (parm fno) bd scope ((fd.dfl.map dvOf).map (He.Dv.v K)) [] (fa wd K fno) fdata → Bnd wd w K fdata (pnam fno) (wd.kw fno) fd.dfl := by
  intro fno fd x qual bd scope fdata hs g F
  simp only [spec, List.mem_cons, List.not_mem_nil, or_false] at hs
  rcases hs with e | e
  · subst e
    cases (show t_fns 220 = some fd from g).symm.trans tf_220
    exact B220 F
  · subst e
    cases (show t_fns 222 = some fd from g).symm.trans tf_222
    exact B222 F
theorem rep_ints {S : Syn} {H : Hp} : ∀ ns : List Int, Reps wd K w S H (ns.map V.int) (ns.map PV.int)
  | [] => .nil
  | i :: r => .cons (.sc (.int i)) (rep_ints r)
/-- the law's promise holds -/
theorem lawSp (nl : ∀ a o, K.lookup a = some o → o.cls ≠ .type "list") {H : Hp} {a : Addr} {ns : List Int} (hl : ns.length ≤ 63) (hS : SqL K H a (ns.map V.int)) : spG wd K w (run wd.G 1000 200) 313 f_law [.ref a] H (fun v _ => v = .bl true) fun _ _ _ => False := by
  rcases hS with hS | ⟨o, its, n, lk, oc, _⟩
  · have al : H a ≠ none := by
      rcases hS with h | ⟨ob, h⟩ <;> (rw [h]; intro z; cases z)
    obtain ⟨h', e⟩ := law70 ns (by omega)
    refine ⟨⟨fun p => p = a, []⟩, [], [.lst (ns.map .int)], ⟨rfl, List.nodup_nil, (fun _ h => nomatch h), (fun b hb => by rw [show b = a from hb]; exact al), (fun i o p h => by simp at h)⟩, .cons (.lst rfl hS (rep_ints ns)) .nil, rfl, ?_⟩
    show PostC wd K w _ H _ _ (RUN 200 313 [.lst (ns.map .int)] [])
    rw [e]
    intro v H' S' _ _ r
    cases r with
    | sc r => cases r; rfl
  · exact absurd oc (nl _ _ lk)
theorem facts (c : SaysU wd fnl cidL methL fidL gcL w h K) (G : h.Ns mainGlobals mg) {fa0 : Addr} (hmg : mg ("law" : Str) = some (.ref fa0)) :
    ∃ fd : FuncData, (∀ (s : Shared) (v : Value), BindsTo s fd ⟨[v], []⟩ [(("_law_script" : Str), v)]) ∧ ∀ base : Heap, K.In base → base.Ns mainGlobals mg → FnOk rwL.prog w K mg base (CX rwL.prog w) 201 fa0 fd [("_law_script" : Str)] (spG wd K w (run wd.G 1000 200) 313 f_law) := by
  have kf := c.kf G hcs hms hfs hgs
  have dok := defOk c (hB trivial)
  have gl : wd.G.fns 313 = some f_law := tf_313
  have ef : fa wd K 313 = fa0 := by
    have := (kf.gfn 313 f_law gl rfl).symm.trans hmg
    injection this with this
    injection this
  obtain ⟨n, b, sc, fdata, N, F, m⟩ := defInfo c (show tab.fns 313 = some f_law from tf_313)
  have pn : pnam 313 = [("_law_script" : Str)] := by decide +kernel
  have pp : plainP (pnam 313) (parm 313) = true := by decide +kernel
  rw [pn] at m pp
  obtain ⟨m1, m⟩ := He.ba m
  obtain ⟨m2, m⟩ := He.ba m
  obtain ⟨m3, m⟩ := He.ba m
  obtain ⟨m4, m5⟩ := He.ba m
  have F : FunD K n (qualOf (wd.fat 313)) (parm 313) b sc [] [] (fa wd K 313) fdata := F
  refine ⟨fdata, fun s v => ?_, fun base X GB => ?_⟩
  · exact FunD.bindsA (ps := [("_law_script" : Str)]) F (fun kV doc pm an cdv ct us l => bind_plain pp (by decide) kV doc pm an cdv ct us l) s [v] rfl
  · have hL : ∀ ev : Ev, ev.G = wd.G → Late wd ev := fun ev _ => late wd ev
    have A := fns_all (P := rwL.prog) (w := w) (K := K) (mg := mg) (base := base) 1000 dok hL hxc kf 199
    have := ok_def (P := rwL.prog) (w := w) (base := base) (wf := 1000) (d := 199) gl F (scB_ok m1) (of_decide_eq_true m2) (of_decide_eq_true m3) rfl m5 hL hxc kf A.1 A.2
    rw [ef] at this
    exact this
end
/-- what flies, of any world -/
def CXA (P : Program) : CXT := fun outer H s E e s' => ∃ w, CX P w outer H s E e s'
theorem fn_any {P : Program} {w : World} {K : PySem.W.Frag} {mg : Str → Option Value} {base : Heap} {k : Nat} {f : Addr} {fd : FuncData} {ps : List Str} {sp : Sp} (F : FnOk P w K mg base (CX P w) k f fd ps sp) : FnOk P w K mg base (CXA P) k f fd ps sp :=
  ⟨F.len, fun A outer s H args us vs Q E hr e0 hb hv hs => codeAny_mono (F.run A outer s H args us vs Q E hr e0 hb hv hs) fun r s' h => by
    cases r with
    | error e => exact ⟨w, h⟩
    | ok fl => cases fl with
      | ret u => exact h
      | next => exact h
      | brk => exact h
      | cont => exact h⟩
end U
open PySem PySem.W PySem.Calls PyProof.Rows
theorem PySem.Challenge.cw_usetally_k70_twins_apart_holds : PySem.Challenge.rw_usetally_k70_twins_apart.Holds := by
  w_on; o_law
  refine HandSHeadRun.head_any (r := U.Rw) (q := U.qv) (H := U.hk) (ob := U.ob) (M := 12000) (loose := U.names) (d := HandSHeadRun.topDef U.Rw.prog U.lawI) (kwd := []) (fun s => ?ho)
    (by kernel_rfl) (fun s => by kernel_rfl) (fun w => byRow2 "special-get-raises" (P := fun w => HandSHeadRun.RunEq U.Rw U.qv U.hk U.ob 12000 U.names w) U.runF U.runT w) (by kernel_rfl) (by kernel_rfl) (by kernel_rfl) (by rfl) (by first | assumption | decide +kernel) (by decide +kernel) ⟨rfl, rfl, rfl, rfl, rfl, by decide +kernel⟩ ?hw ?hc
  case ho =>
    have e : HandSHeadRun.getT s = s.abs.heap.get? := funext fun a => HandSHeadRun.getT_eq s a
    show U.obsU _ _ _ _ _ _ (HandSHeadRun.getT s) = U.obsU _ _ _ _ _ _ s.abs.heap.get?
    rw [e]
  case hw => w_witness2
  case hc =>
    refine L2.walk_ofE (l := PySem.Challenge.rw_usetally_k70_twins_apart) (n := 63) (k := 201) (x := "_law_script") (CX := U.CXA U.Rw.prog) rfl (by decide) (by kernel_rfl) ⟨rfl, by decide, by decide⟩ ?F ?C
    · intro w mg fa h Y G hmg0
      obtain ⟨K, c⟩ := Y
      have hmg : mg ("law" : PySem.Str) = some (.ref fa) := by
        have e : (HandSHeadRun.topDef U.Rw.prog U.lawI).name = ("law" : PySem.Str) := by kernel_rfl
        rw [← e]
        exact hmg0
      obtain ⟨fd, hb, hF⟩ := U.facts c G hmg
      exact ⟨K, fd, _, c.X, hb, fun H a ns hl _ hS => U.lawSp c.nl hl hS, fun base X GB => U.fn_any (hF base X GB)⟩
    · intro H s e s' h
      obtain ⟨w, a, B, H', cls, d, _, _, _, _, _, _, _, z⟩ := h
      exact z
