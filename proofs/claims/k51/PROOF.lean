import PyProof.Rows.All
import HandS.ForMost
import HandS.IsInst
import PyProof.ReprReads
import HandS.Exc
import HandS.CallSlots
import HandS.Flow
import HandS.TupAny
import PyProof.ReprRoads
import HandS.Comp
import HandS.Defaults
import HandS.HeadWalk
import HandS.List
import HandS.RaiseMore
import PyProof.InstNe
import HandS.Walk
import HandS.Zip
import HandS.Head0
import HandS.Head1
import HandS.Head2
import HandS.HeadEnd
import HandS.HeadHook1
import HandS.HeadHook2
import HandS.HeadHook3
import HandS.HeadHook4
import HandS.Ends
import PyProof.ReprBulk
import PySem.Challenge.RW_lookingdays_k51_whole_days_of_calendars
set_option Elab.async false
/-! PF: a small pure language; values are trees, mutable objects stand in a store or in a slot of a frame. -/
set_option linter.all false
namespace PF
open PySem L2

/-- a value: a tree; loc k is the k-th mutable list of the store -/
inductive PV where
  | non
  | bl (b : Bool)
  | int (i : Int)
  | str (x : Str)
  | lst (xs : List PV)
  | tup (xs : List PV)
  | ins (c : Nat) (ns : List Str) (xs : List PV)
  | loc (k : Nat)
  | scr (ns : List Int)

abbrev Sto := List (List PV)

inductive Out (α : Type) where
  | ok (a : α)
  | exc (c : Nat) (fs : List PV) (S : Sto)
  | stk

def Out.bnd {α β : Type} (m : Out α) (f : α → Out β) : Out β := match m with
  | .ok a => f a
  | .exc c fs S => .exc c fs S
  | .stk => .stk

abbrev M (α : Type) := Sto → Out (α × Sto)
def ret {α : Type} (a : α) : M α := fun S => .ok (a, S)
def bnd {α β : Type} (m : M α) (f : α → M β) : M β := fun S => (m S).bnd fun p => f p.1 p.2
def stuck {α : Type} : M α := fun _ => .stk
def opt {α : Type} (o : Option α) : M α := match o with
  | some a => ret a
  | none => stuck

/-- a slot of a frame -/
inductive Sl where
  | emp
  | val (v : PV)
  | own (xs : List PV)
  | obj (c : Nat) (ns : List Str) (xs : List PV)
abbrev Env := List Sl

inductive Bop where
  | add | sub | mul | fdiv | mod | pow | shl | shr | band | bor | bxor
inductive Cop where
  | eq | ne | lt | le | gt | ge | isn | notn | in_ | nin
inductive Bif where
  | len | int | abs | tuple | list | sorted | sum | max | min | all | any | repr | str | bool
inductive Ty where
  | b (n : String)
  | c (k : Nat)

/-- where an argument comes from: a written value, a keyword's, a default -/
inductive Sel where
  | p (i : Nat)
  | k (i : Nat)
  | d (j : Nat) (v : PV)
def Sel.up : Sel → Sel
  | .p i => .p (i + 1)
  | s => s
inductive Tgt where
  | nm (i : Nat)
  | tp (is : List Nat)

mutual
inductive Ex where
  | cst (v : PV)
  | var (i : Nat)
  | bor (i : Nat)
  | glb (x : Str) (v : PV)
  | bin (o : Bop) (a b : Ex)
  | neg (a : Ex)
  | not (a : Ex)
  | and (a b : Ex)
  | or (a b : Ex)
  | ite (c a b : Ex)
  | cmp (o : Cop) (a b : Ex)
  | chn (o p : Cop) (a b c : Ex)
  | tup (es : Exs)
  | lst (es : Exs)
  | idx (a i : Ex)
  | slc (a : Ex) (lo hi : Exo)
  | att (a : Ex) (f : Str)
  | atO (i : Nat) (f : Str)
  | bif (b : Bif) (es : Exs)
  | isi (a : Ex) (ts : List Ty)
  | call (f : Nat) (es kv : Exs) (sel : List Sel)
  | make (c : Nat) (es kv : Exs) (sel : List Sel)
  | meth (a : Ex) (m : Str) (es kv : Exs) (sel : List Sel)
  | lc (elt : Ex) (tg : Tgt) (it : Itx) (cs : Exo) (vs : List Nat)
  | stk
inductive Exs where
  | nil
  | cons (e : Ex) (es : Exs)
inductive Exo where
  | none
  | some (e : Ex)
inductive Itx where
  | val (e : Ex)
  | rng1 (e : Ex)
  | rng2 (a b : Ex)
  | zip (a b : Ex)
  | enum (a : Ex)
end

mutual
inductive Stt where
  | frz (is : List Nat)
  | set (i : Nat) (e : Ex)
  | setO (i : Nat) (e : Ex)
  | par (i j : Nat) (a b : Ex) (oa ob : Bool)
  | unp (tg : Tgt) (e : Ex)
  | sub (i : Nat) (ix e : Ex)
  | app (i : Nat) (e : Ex)
  | ext (i : Nat) (e : Ex)
  | appop (i j : Nat) (e : Ex)
  | fld (i : Nat) (f : Str) (e : Ex)
  | exp (e : Ex)
  | iff (c : Ex) (t f : Stts)
  | for_ (tg : Tgt) (it : Itx) (body : Stts)
  | whl (c : Ex) (body : Stts)
  | ret (e : Ex)
  | retN
  | retNew (es : Exs)
  | brk
  | cnt
  | pas
  | rai (c : Nat) (es : Exs)
  | stk
inductive Stts where
  | nil
  | cons (s : Stt) (ss : Stts)
end

/-! ### plain operations -/
def two64 : Int := 18446744073709551616
def smallI (i : Int) : Bool := decide (-two64 < i) && decide (i < two64)
def line : Nat := 16777216
def r62 : Int := 4611686018427387904
def inR (i : Int) : Bool := decide (-r62 ≤ i) && decide (i < r62)

def binI : Bop → Int → Int → Option Int
  | .add, i, j => some (i + j)
  | .sub, i, j => some (i - j)
  | .mul, i, j => if smallI i || smallI j then some (i * j) else none
  | .fdiv, i, j => if decide (0 < j) && decide (j < 1073741824) then some (i / j) else none
  | .mod, i, j => if 0 < j then some (i % j) else none
  | .pow, i, j => if decide (0 ≤ j) && decide (j ≤ 1000000) && smallI i then some (i ^ j.toNat) else none
  | .shl, i, j => if decide (0 ≤ j) && decide (j ≤ 1000000) && smallI i then some (i * 2 ^ j.toNat) else none
  | .shr, i, j => if 0 ≤ j then some (i / 2 ^ j.toNat) else none
  | .band, i, j => some (Builtin.bitAnd i j)
  | .bor, i, j => some (Builtin.bitOr i j)
  | .bxor, i, j => some (Builtin.bitXor i j)

def binP : Bop → PV → PV → Option PV
  | o, .int i, .int j => (binI o i j).map .int
  | .add, .lst xs, .lst ys => if xs.length + ys.length ≤ line then some (.lst (xs ++ ys)) else none
  | .add, .tup xs, .tup ys => if xs.length + ys.length ≤ line then some (.tup (xs ++ ys)) else none
  | .add, .str x, .str y => if x.length + y.length ≤ line then some (.str (x ++ y)) else none
  | .mul, .lst xs, .int k => if inR k && decide (xs.length * k.toNat ≤ line) then some (.lst (List.replicate k.toNat xs).flatten) else none
  | _, _, _ => none

mutual
/-- a value as plain data -/
def toD : PV → Option PyData
  | .non => some .none
  | .bl b => some (.bool b)
  | .int i => some (.int i)
  | .str x => some (.str x)
  | .lst xs => (toDs xs).map .list
  | .tup xs => (toDs xs).map .tuple
  | .ins _ _ _ => none
  | .loc _ => none
  | .scr _ => none
def toDs : List PV → Option (List PyData)
  | [] => some []
  | x :: xs => match toD x, toDs xs with
    | some d, some ds => some (d :: ds)
    | _, _ => none
end
mutual
/-- plain data of depth n at most -/
def okN : Nat → PV → Bool
  | _, .non => true
  | _, .bl _ => true
  | _, .int _ => true
  | _, .str x => PyData.strOk x
  | n + 1, .lst xs => okNs n xs
  | n + 1, .tup xs => okNs n xs
  | _, _ => false
def okNs : Nat → List PV → Bool
  | _, [] => true
  | n, x :: xs => okN n x && okNs n xs
end
mutual
/-- == of plain data -/
def eqP : PV → PV → Bool
  | .non, .non => true
  | .bl a, .bl b => a == b
  | .bl a, .int j => (if a then 1 else 0) == j
  | .int i, .bl b => i == (if b then 1 else 0)
  | .int i, .int j => i == j
  | .str x, .str y => x == y
  | .lst xs, .lst ys => eqPs xs ys
  | .tup xs, .tup ys => eqPs xs ys
  | _, _ => false
def eqPs : List PV → List PV → Bool
  | [], [] => true
  | x :: xs, y :: ys => eqP x y && eqPs xs ys
  | _, _ => false
end
def flatP : PV → Bool
  | .non => true
  | .bl _ => true
  | .int _ => true
  | .str _ => true
  | _ => false
def strLt (x y : Str) : Bool := decide (x.cps.toList < y.cps.toList)
def ltI : PV → PV → Option Bool
  | .int i, .int j => some (decide (i < j))
  | .str x, .str y => some (strLt x y)
  | _, _ => none
def itemsOf : PV → Option (List PV)
  | .lst xs => some xs
  | .tup xs => some xs
  | _ => none
def inP (x y : PV) : Option Bool := match itemsOf y with
  | some ys => if flatP x && ys.all flatP then some (ys.any fun z => eqP z x) else none
  | none => none
def isS : PV → Bool
  | .str _ => true
  | _ => false
def cmpP : Cop → PV → PV → Option Bool
  | .eq, a, b => if (isS a && isS b) || (okN 64 a && okN 64 b) then some (eqP a b) else none
  | .ne, a, b => if (isS a && isS b) || (okN 64 a && okN 64 b) then some (!eqP a b) else none
  | .lt, a, b => ltI a b
  | .gt, a, b => ltI b a
  | .le, .int i, .int j => some (decide (i ≤ j))
  | .le, .str x, .str y => some (!strLt y x)
  | .ge, .int i, .int j => some (decide (j ≤ i))
  | .ge, .str x, .str y => some (!strLt x y)
  | .in_, a, b => inP a b
  | .nin, a, b => (inP a b).map (!·)
  | _, _, _ => none
/-- is None -/
def isNon : PV → Bool
  | .non => true
  | _ => false
def truP : PV → Option Bool
  | .non => some false
  | .bl b => some b
  | .int i => some (i != 0)
  | .str x => if x.length ≤ line then some ((x.length : Int) != 0) else none
  | .lst xs => some (!xs.isEmpty)
  | .tup xs => some (!xs.isEmpty)
  | _ => none
def idxP : PV → PV → Option PV
  | .lst xs, .int i => atI xs i
  | .tup xs, .int i => atI xs i
  | .str x, .int i => if x.length ≤ line then (atI x.cps.toList i).map fun c => .str ⟨#[c]⟩ else none
  | _, _ => none
def cutP {α : Type} (xs : List α) (lo hi : Option Int) : List α := (xs.drop (HT.sIx xs.length 0 lo)).take (HT.sIx xs.length xs.length hi - HT.sIx xs.length 0 lo)
def slcP : PV → Option Int → Option Int → Option PV
  | .lst xs, lo, hi => some (.lst (cutP xs lo hi))
  | .tup xs, lo, hi => some (.tup (cutP xs lo hi))
  | .scr ns, lo, hi => some (.lst (cutP (ns.map .int) lo hi))
  | _, _, _ => none
def getIs : List PV → Option (List Int)
  | [] => some []
  | .int i :: xs => (getIs xs).map (i :: ·)
  | _ => none
def getBs : List PV → Option (List Bool)
  | [] => some []
  | .bl b :: xs => (getBs xs).map (b :: ·)
  | _ => none
def getSs : List PV → Option (List Str)
  | [] => some []
  | .str x :: xs => (getSs xs).map (x :: ·)
  | _ => none
def maxL : List Int → Int
  | [] => 0
  | x :: xs => xs.foldl max x
def minL : List Int → Int
  | [] => 0
  | x :: xs => xs.foldl min x
def insS (x : Str) : List Str → List Str
  | [] => [x]
  | y :: ys => if strLt y x then y :: insS x ys else x :: y :: ys
def sortS : List Str → List Str
  | [] => []
  | x :: xs => insS x (sortS xs)
def insI (x : Int) : List Int → List Int
  | [] => [x]
  | y :: ys => if y < x then y :: insI x ys else x :: y :: ys
def sortI : List Int → List Int
  | [] => []
  | x :: xs => insI x (sortI xs)
/-- repr of plain data -/
def reprP (x : PV) : Option PV := if okN 60 x then match toD x with
    | some d => if d.showable && decide (d.shown.length ≤ line) then some (.str d.shown) else none
    | none => none
  else none
def bifP : Bif → List PV → Option PV
  | .len, [.str x] => if x.length ≤ line then some (.int x.length) else none
  | .len, [.lst xs] => some (.int xs.length)
  | .len, [.tup xs] => some (.int xs.length)
  | .int, [.int i] => some (.int i)
  | .int, [.bl b] => some (.int (if b then 1 else 0))
  | .abs, [.int i] => some (.int (if i < 0 then -i else i))
  | .tuple, [.lst xs] => some (.tup xs)
  | .tuple, [.tup xs] => some (.tup xs)
  | .list, [.lst xs] => some (.lst xs)
  | .list, [.tup xs] => some (.lst xs)
  | .max, [.int i, .int j] => some (.int (if j > i then j else i))
  | .min, [.int i, .int j] => some (.int (if j < i then j else i))
  | .max, [.lst xs] => match getIs xs with
    | some (n :: ns) => some (.int (maxL (n :: ns)))
    | _ => none
  | .min, [.lst xs] => match getIs xs with
    | some (n :: ns) => some (.int (minL (n :: ns)))
    | _ => none
  | .sum, [.lst xs] => (getIs xs).map fun ns => .int ns.sum
  | .all, [.lst xs] => (getBs xs).map fun bs => .bl (bs.all id)
  | .any, [.lst xs] => (getBs xs).map fun bs => .bl (bs.any id)
  | .sorted, [.lst xs] => if xs.length < 64 then match getSs xs with
      | some ys => some (.lst ((sortS ys).map .str))
      | none => (getIs xs).map fun ns => .lst ((sortI ns).map .int)
    else none
  | .repr, [.non] => some (.str "None")
  | .repr, [.lst xs] => reprP (.lst xs)
  | .repr, [.tup xs] => reprP (.tup xs)
  | .repr, [.int i] => if i.natAbs.log2 < 1920 then some (.str (toString i)) else none
  | _, _ => none
def tyP : PV → Option Ty
  | .non => some (.b "NoneType")
  | .bl _ => some (.b "bool")
  | .int _ => some (.b "int")
  | .str _ => some (.b "str")
  | .lst _ => some (.b "list")
  | .tup _ => some (.b "tuple")
  | .ins c _ _ => some (.c c)
  | _ => none

def fldP (ns : List Str) (xs : List PV) (f : Str) : Option PV := (ns.zip xs).lookup f

/-! ### the program's data -/
structure ClsD where
  name : Str
  init : Nat
  flds : List Str
  meths : List (Str × Nat)
  above : List Nat := []
  deriving Inhabited
structure FnD where
  name : Str
  np : Nat
  nn : Nat
  body : Stts
structure Pg where
  fns : List FnD
  cls : List ClsD
  whl : Nat := 1000000

structure Calls where
  fn : Nat → List PV → M PV
  new : Nat → List PV → M PV

def isiTys : List String := ["NoneType", "bool", "int", "str", "list", "tuple", "float", "dict"]
def isiOne (pg : Pg) : Ty → Ty → Option Bool
  | .b a, .b b => if a == b then some true else L2.kitB a b
  | .b a, .c j => if decide (j < pg.cls.length) && isiTys.contains a then some false else none
  | .c k, .c j => if decide (k < pg.cls.length) && decide (j < pg.cls.length) then some (k == j || (pg.cls.getD k default).above.contains j) else none
  | .c k, .b b => if decide (k < pg.cls.length) && isiTys.contains b then some false else none
def isiP (pg : Pg) (t : Ty) : List Ty → Option Bool
  | [] => some false
  | u :: us => match isiOne pg t u with
    | some true => some true
    | some false => isiP pg t us
    | none => none

def methP (pg : Pg) (m : Str) : PV → Option Nat
  | .ins c ns _ => if ns.contains m then none else (pg.cls.getD c default).meths.lookup m
  | _ => none
def attP (pg : Pg) (f : Str) : PV → Option PV
  | .ins c ns xs => if (pg.cls.getD c default).flds.contains f then fldP ns xs f else none
  | _ => none

/-! ### expressions -/
def rdV (ρ : Env) (i : Nat) : M PV := match ρ[i]? with
  | some (.val v) => ret v
  | _ => stuck
def rdB (ρ : Env) (i : Nat) : M PV := match ρ[i]? with
  | some (.val v) => ret v
  | some (.own xs) => ret (.lst xs)
  | _ => stuck
/-- what stands in a slot, an instance that is made, too -/
def rdO (ρ : Env) (i : Nat) : Option PV := match ρ[i]? with
  | some (.val v) => some v
  | some (.obj c ns xs) => some (.ins c ns xs)
  | _ => none
def der (v : PV) : M PV := fun S => match v with
  | .loc k => match S[k]? with
    | some xs => .ok (.lst xs, S)
    | none => .stk
  | v => .ok (v, S)
def setTs : List Nat → List PV → Env → Option Env
  | [], [], ρ => some ρ
  | i :: is, v :: vs, ρ => setTs is vs (ρ.set i (.val v))
  | _, _, _ => none
def asgT : Tgt → PV → Env → Option Env
  | .nm i, v, ρ => some (ρ.set i (.val v))
  | .tp is, .tup vs, ρ => setTs is vs ρ
  | _, _, _ => none
def wipeE (ρ : Env) : List Nat → Env
  | [] => ρ
  | v :: vs => (wipeE ρ vs).set v .emp
def lcL (f : PV → M (Option PV)) : List PV → M (List PV)
  | [] => ret []
  | x :: xs => bnd (f x) fun y => bnd (lcL f xs) fun ys => ret (match y with
    | some y => y :: ys
    | none => ys)
/-- where nothing may be raised -/
def noExc {α : Type} (m : M α) : M α := fun S => match m S with
  | .ok p => .ok p
  | _ => .stk
def sel1 : Sel → List PV → List PV → Option PV
  | .p i, xs, _ => xs[i]?
  | .k i, _, ys => ys[i]?
  | .d _ v, _, _ => some v
def selP : List Sel → List PV → List PV → Option (List PV)
  | [], _, _ => some []
  | s :: ss, xs, ys => match sel1 s xs ys, selP ss xs ys with
    | some v, some vs => some (v :: vs)
    | _, _ => none
def toI : PV → Option Int
  | .int i => some i
  | _ => none
def bl! (v : PV) : M Bool := match v with
  | .bl b => ret b
  | _ => stuck

/-- no instance of a class below class c -/
def subOne (pg : Pg) (c : Nat) : Ty → Option Bool
  | .b a => if decide (c < pg.cls.length) && isiTys.contains a then some false else none
  | .c k => if decide (k < pg.cls.length) && decide (c < pg.cls.length) then some (k == c || (pg.cls.getD k default).above.contains c) else none
def subOk (pg : Pg) (c : Nat) (y : PV) : Bool := match tyP y with
  | some t => (match t with
    | .b a => a != "list"
    | .c _ => true) && ((match t with
    | .c k => k == c && decide (c < pg.cls.length)
    | _ => false) || (match subOne pg c t with
    | some b => !b
    | none => false))
  | none => false
/-- == by the class's own __eq__ -/
def eqC (pg : Pg) (C : Calls) (c : Nat) (x y : PV) : M Bool := match (pg.cls.getD c default).meths.lookup ("__eq__" : Str) with
  | some f => if subOk pg c y then bnd (noExc (C.fn f [x, y])) bl! else stuck
  | none => stuck
def cmpM (pg : Pg) (C : Calls) (o : Cop) (x y : PV) : M Bool := match x with
  | .ins c _ _ => (match o with
    | .eq => eqC pg C c x y
    | .ne => bnd (eqC pg C c x y) fun k => ret (!k)
    | _ => stuck)
  | _ => opt (cmpP o x y)
/-- a value, and its truth as a test -/
def tv (m : M PV) : M PV × M Bool := (m, bnd m fun x => opt (truP x))
mutual
/-- the value of an expression; the outcome of it as a test -/
def evP (pg : Pg) (C : Calls) : Ex → Env → M PV × M Bool
  | .cst v, _ => tv (ret v)
  | .var i, ρ => tv (rdV ρ i)
  | .bor i, ρ => tv (rdB ρ i)
  | .glb _ v, _ => tv (ret v)
  | .bin o a b, ρ => tv (bnd (evP pg C a ρ).1 fun x => bnd (evP pg C b ρ).1 fun y => opt (binP o x y))
  | .neg a, ρ => tv (bnd (evP pg C a ρ).1 fun x => match x with
    | .int i => ret (.int (-i))
    | _ => stuck)
  | .not a, ρ => (bnd (evP pg C a ρ).1 fun x => bnd (opt (truP x)) fun b => ret (.bl (!b)), bnd (evP pg C a ρ).2 fun k => ret (!k))
  | .and a b, ρ => (bnd (evP pg C a ρ).1 fun x => bnd (bl! x) fun k => if k then (evP pg C b ρ).1 else ret (.bl false), bnd (evP pg C a ρ).2 fun k => if k then (evP pg C b ρ).2 else ret false)
  | .or a b, ρ => (bnd (evP pg C a ρ).1 fun x => bnd (bl! x) fun k => if k then ret (.bl true) else (evP pg C b ρ).1, bnd (evP pg C a ρ).2 fun k => if k then ret true else (evP pg C b ρ).2)
  | .ite c a b, ρ => (bnd (evP pg C c ρ).2 fun k => if k then (evP pg C a ρ).1 else (evP pg C b ρ).1, stuck)
  | .cmp o a b, ρ => tv (match o with
    | .isn => bnd (evP pg C a ρ).1 fun x => ret (.bl (isNon x))
    | .notn => bnd (evP pg C a ρ).1 fun x => ret (.bl (!isNon x))
    | o => bnd (evP pg C a ρ).1 fun x => bnd (evP pg C b ρ).1 fun y => bnd (cmpM pg C o x y) fun k => ret (.bl k))
  | .chn o p a b c, ρ => tv (bnd (evP pg C a ρ).1 fun x => bnd (evP pg C b ρ).1 fun y => bnd (opt (cmpP o x y)) fun k =>
      if k then bnd (evP pg C c ρ).1 fun z => bnd (opt (cmpP p y z)) fun k => ret (.bl k) else ret (.bl false))
  | .tup es, ρ => tv (bnd (evs pg C es ρ) fun xs => if xs.length ≤ line then ret (.tup xs) else stuck)
  | .lst es, ρ => tv (bnd (evs pg C es ρ) fun xs => if xs.length ≤ line then ret (.lst xs) else stuck)
  | .idx a i, ρ => tv (bnd (evP pg C a ρ).1 fun x => bnd (evP pg C i ρ).1 fun y => bnd (der x) fun x => opt (idxP x y))
  | .slc a lo hi, ρ => tv (bnd (evP pg C a ρ).1 fun x => bnd (evo pg C lo ρ) fun l => bnd (evo pg C hi ρ) fun h => opt (slcP x l h))
  | .att a f, ρ => tv (bnd (evP pg C a ρ).1 fun x => opt (attP pg f x))
  | .atO i f, ρ => tv (opt ((rdO ρ i).bind (attP pg f)))
  | .bif b es, ρ => tv (bnd (evs pg C es ρ) fun xs => opt (bifP b xs))
  | .isi a ts, ρ => tv (bnd (evP pg C a ρ).1 fun x => bnd (opt (tyP x)) fun t => bnd (opt (isiP pg t ts)) fun b => ret (.bl b))
  | .call f es kv sel, ρ => tv (bnd (evs pg C es ρ) fun xs => bnd (evs pg C kv ρ) fun ys => bnd (opt (selP sel xs ys)) fun zs => C.fn f zs)
  | .make c es kv sel, ρ => tv (bnd (evs pg C es ρ) fun xs => bnd (evs pg C kv ρ) fun ys => bnd (opt (selP sel xs ys)) fun zs => C.new c zs)
  | .meth a m es kv sel, ρ => tv (bnd (evP pg C a ρ).1 fun x => bnd (opt (methP pg m x)) fun f => bnd (evs pg C es ρ) fun xs => bnd (evs pg C kv ρ) fun ys => bnd (opt (selP sel xs ys)) fun zs => C.fn f (x :: zs))
  | .lc elt tg it cs vs, ρ => tv (bnd (evI pg C it ρ) fun xs => if xs.length ≤ line then
      bnd (lcL (fun x => bnd (opt (asgT tg x (wipeE ρ vs))) fun ρ' => noExc (bnd (evc pg C cs ρ') fun k => if k then bnd (evP pg C elt ρ').1 fun y => ret (some y) else ret none)) xs) fun ys => ret (.lst ys)
      else stuck)
  | .stk, _ => (stuck, stuck)
def evs (pg : Pg) (C : Calls) : Exs → Env → M (List PV)
  | .nil, _ => ret []
  | .cons e es, ρ => bnd (evP pg C e ρ).1 fun x => bnd (evs pg C es ρ) fun xs => ret (x :: xs)
def evo (pg : Pg) (C : Calls) : Exo → Env → M (Option Int)
  | .none, _ => ret none
  | .some e, ρ => bnd (evP pg C e ρ).1 fun x => bnd (opt (toI x)) fun i => ret (some i)
/-- a comprehension's test -/
def evc (pg : Pg) (C : Calls) : Exo → Env → M Bool
  | .none, _ => ret true
  | .some e, ρ => (evP pg C e ρ).2
def evI (pg : Pg) (C : Calls) : Itx → Env → M (List PV)
  | .val e, ρ => bnd (evP pg C e ρ).1 fun x => match x with
    | .lst xs => ret xs
    | .tup xs => ret xs
    | .str x => ret (x.cps.toList.map fun c => .str ⟨#[c]⟩)
    | _ => stuck
  | .rng1 e, ρ => bnd (evP pg C e ρ).1 fun x => match x with
    | .int j => if inR j then ret ((List.range j.toNat).map fun (i : Nat) => .int (i : Int)) else stuck
    | _ => stuck
  | .rng2 a b, ρ => bnd (evP pg C a ρ).1 fun x => bnd (evP pg C b ρ).1 fun y => match x, y with
    | .int i, .int j => if inR i && inR j then ret ((List.range (j - i).toNat).map fun (n : Nat) => .int (i + n)) else stuck
    | _, _ => stuck
  | .zip a b, ρ => bnd (evP pg C a ρ).1 fun x => bnd (evP pg C b ρ).1 fun y => match x, y with
    | .lst xs, .lst ys => ret (List.zipWith (fun x y => .tup [x, y]) xs ys)
    | _, _ => stuck
  | .enum a, ρ => bnd (evP pg C a ρ).1 fun x => match x with
    | .lst xs => ret (xs.zipIdx.map fun p => .tup [.int (p.2 : Int), p.1])
    | _ => stuck
end
def ev (pg : Pg) (C : Calls) (e : Ex) (ρ : Env) : M PV := (evP pg C e ρ).1
def evT (pg : Pg) (C : Calls) (e : Ex) (ρ : Env) : M Bool := (evP pg C e ρ).2

/-! ### statements -/
inductive Res where
  | nxt (ρ : Env) (S : Sto)
  | ret (v : PV) (S : Sto)
  | brk (ρ : Env) (S : Sto)
  | cnt (ρ : Env) (S : Sto)
  | exc (c : Nat) (fs : List PV) (ρ : Env) (S : Sto)
  | stk

/-- behind a value -/
def thn {α : Type} (m : M α) (ρ : Env) (S : Sto) (f : α → Sto → Res) : Res := match m S with
  | .ok (a, S') => f a S'
  | .exc c fs S' => .exc c fs ρ S'
  | .stk => .stk
def frzE (ρ : Env) : List Nat → Env
  | [] => ρ
  | i :: is => frzE (match ρ[i]? with
    | some (.own xs) => ρ.set i (.val (.lst xs))
    | some (.obj c ns xs) => ρ.set i (.val (.ins c ns xs))
    | _ => ρ) is
def putN (f : Str) : List Str → List Str
  | [] => [f]
  | n :: ns => if n = f then n :: ns else n :: putN f ns
def putX {α : Type} (f : Str) (v : α) : List Str → List α → List α
  | n :: ns, x :: xs => if n = f then v :: xs else x :: putX f v ns xs
  | _, _ => [v]
/-- the list that is changed: in its slot, or in the store -/
def mutL (i : Nat) (ρ : Env) (S : Sto) (f : List PV → Option (List PV)) : Res := match ρ[i]? with
  | some (.own xs) => match f xs with
    | some ys => .nxt (ρ.set i (.own ys)) S
    | none => .stk
  | some (.val (.loc k)) => match S[k]? with
    | some xs => match f xs with
      | some ys => .nxt ρ (S.set k ys)
      | none => .stk
    | none => .stk
  | _ => .stk
/-- a list stands there that may be changed -/
def chk (ρ : Env) (i : Nat) : M Unit := match ρ[i]? with
  | some (.own _) => ret ()
  | some (.val (.loc _)) => ret ()
  | _ => stuck
def slOf (o : Bool) (v : PV) : Option Sl := if o then match v with
    | .lst xs => some (.own xs)
    | _ => none
  else some (.val v)
def forL (tg : Tgt) (f : Env → Sto → Res) : List PV → Env → Sto → Res
  | [], ρ, S => .nxt ρ S
  | x :: xs, ρ, S => match asgT tg x ρ with
    | none => .stk
    | some ρ => match f ρ S with
      | .nxt ρ S => forL tg f xs ρ S
      | .cnt ρ S => forL tg f xs ρ S
      | .brk ρ S => .nxt ρ S
      | r => r
def whlL (c : Env → M Bool) (f : Env → Sto → Res) : Nat → Env → Sto → Res
  | 0, _, _ => .stk
  | n + 1, ρ, S => thn (c ρ) ρ S fun k S => if k then match f ρ S with
      | .nxt ρ S => whlL c f n ρ S
      | .cnt ρ S => whlL c f n ρ S
      | .brk ρ S => .nxt ρ S
      | r => r
    else .nxt ρ S

mutual
def ex (pg : Pg) (C : Calls) : Stt → Env → Sto → Res
  | .frz is, ρ, S => .nxt (frzE ρ is) S
  | .set i e, ρ, S => thn (ev pg C e ρ) ρ S fun v S => .nxt (ρ.set i (.val v)) S
  | .setO i e, ρ, S => thn (ev pg C e ρ) ρ S fun v S => match slOf true v with
    | some s => .nxt (ρ.set i s) S
    | none => .stk
  | .par i j a b oa ob, ρ, S => thn (ev pg C a ρ) ρ S fun v S => thn (ev pg C b ρ) ρ S fun w S => match slOf oa v, slOf ob w with
    | some s, some t => .nxt ((ρ.set i s).set j t) S
    | _, _ => .stk
  | .unp tg e, ρ, S => thn (ev pg C e ρ) ρ S fun v S => match asgT tg v ρ with
    | some ρ => .nxt ρ S
    | none => .stk
  | .sub i ix e, ρ, S => thn (ev pg C e ρ) ρ S fun v S => thn (bnd (chk ρ i) fun _ => ev pg C ix ρ) ρ S fun k S => match k with
    | .int k => mutL i ρ S fun xs => (ixN xs.length k).map fun j => xs.set j v
    | _ => .stk
  | .app i e, ρ, S => thn (bnd (chk ρ i) fun _ => ev pg C e ρ) ρ S fun v S => mutL i ρ S fun xs => if xs.length < line then some (xs ++ [v]) else none
  | .ext i e, ρ, S => thn (bnd (chk ρ i) fun _ => ev pg C e ρ) ρ S fun v S => match v with
    | .lst ys => mutL i ρ S fun xs => if xs.length + ys.length ≤ line then some (xs ++ ys) else none
    | _ => .stk
  | .appop i j e, ρ, S => thn (bnd (chk ρ i) fun _ => bnd (chk ρ j) fun _ => ev pg C e ρ) ρ S fun v S => match v, ρ[j]? with
    | .int k, some (.own ys) => match ixN ys.length k, decide (i = j) || !inR k with
      | some n, false => match ys[n]? with
        | some y => mutL i (ρ.set j (.own (ys.eraseIdx n))) S fun xs => if xs.length < line then some (xs ++ [y]) else none
        | none => .stk
      | _, _ => .stk
    | _, _ => .stk
  | .fld i f e, ρ, S => thn (ev pg C e ρ) ρ S fun v S => match ρ[i]? with
    | some (.obj c ns xs) => if decide (ns.length < 1000) && (pg.cls.getD c default).flds.contains f then .nxt (ρ.set i (.obj c (putN f ns) (putX f v ns xs))) S else .stk
    | _ => .stk
  | .exp e, ρ, S => thn (ev pg C e ρ) ρ S fun _ S => .nxt ρ S
  | .iff c t f, ρ, S => thn (evT pg C c ρ) ρ S fun k S => if k then exs pg C t ρ S else exs pg C f ρ S
  | .for_ tg it body, ρ, S => thn (evI pg C it ρ) ρ S fun xs S => forL tg (fun ρ S => exs pg C body ρ S) xs ρ S
  | .whl c body, ρ, S => whlL (fun ρ => evT pg C c ρ) (fun ρ S => exs pg C body ρ S) pg.whl ρ S
  | .ret e, ρ, S => thn (ev pg C e ρ) ρ S fun v S => .ret v S
  | .retN, _, S => .ret .non S
  | .retNew es, ρ, S => thn (bnd (evs pg C es ρ) fun xs => if xs.length ≤ line then ret xs else stuck) ρ S fun xs S => .ret (.loc S.length) (S ++ [xs])
  | .brk, ρ, S => .brk ρ S
  | .cnt, ρ, S => .cnt ρ S
  | .pas, ρ, S => .nxt ρ S
  | .rai c es, ρ, S => thn (evs pg C es ρ) ρ S fun xs S => .exc c xs ρ S
  | .stk, _, _ => .stk
def exs (pg : Pg) (C : Calls) : Stts → Env → Sto → Res
  | .nil, ρ, S => .nxt ρ S
  | .cons s ss, ρ, S => match ex pg C s ρ S with
    | .nxt ρ S => exs pg C ss ρ S
    | r => r
end

def runF (pg : Pg) (C : Calls) (f : FnD) (vs : List PV) : M PV := fun S =>
  if vs.length = f.np then match exs pg C f.body (vs.map .val ++ List.replicate (f.nn - f.np) .emp) S with
    | .ret v S => .ok (v, S)
    | .nxt _ S => .ok (.non, S)
    | .exc c fs _ S => .exc c fs S
    | _ => .stk
  else .stk
def runI (pg : Pg) (C : Calls) (c : Nat) (f : FnD) (vs : List PV) : M PV := fun S =>
  if vs.length + 1 = f.np then match exs pg C f.body (.obj c [] [] :: vs.map .val ++ List.replicate (f.nn - f.np) .emp) S with
    | .nxt ρ S => match ρ.head? with
      | some (.obj c ns xs) => .ok (.ins c ns xs, S)
      | _ => .stk
    | .exc c fs _ S => .exc c fs S
    | _ => .stk
  else .stk
def calls (pg : Pg) : Nat → Calls
  | 0 => ⟨fun _ _ => stuck, fun _ _ => stuck⟩
  | n + 1 => ⟨fun f vs => match pg.fns[f]? with
      | some d => runF pg (calls pg n) d vs
      | none => stuck,
    fun c vs => match pg.cls[c]? with
      | some d => match pg.fns[d.init]? with
        | some f => runI pg (calls pg n) c f vs
        | none => stuck
      | none => stuck⟩
end PF

set_option linter.all false
set_option maxRecDepth 100000
namespace PF
open PySem PySem.Spec PyProof.Rows L2

structure Lk where
  P : Program
  w : World
  K : PySem.W.Frag
  mg : Str → Option Value
  base : Heap
  cl : Nat → Addr

mutual
/-- a value of ours, told by what is frozen in the heap -/
def Rep (L : Lk) (Λ : List Addr) (G : Hp) : PV → V → Prop
  | .non, v => v = .non
  | .bl b, v => v = .bl b
  | .int i, v => v = .int i
  | .str x, v => v = .str x
  | .lst xs, v => ∃ a vs, v = .ref a ∧ G a = some (.lst vs) ∧ RepL L Λ G xs vs
  | .tup xs, v => ∃ a vs, v = .ref a ∧ SqT L.K G a vs ∧ RepL L Λ G xs vs
  | .ins c ns xs, v => ∃ a dx vs, v = .ref a ∧ G a = some (.ins (L.cl c) dx (ns.zip vs)) ∧ ns.length = vs.length ∧ RepL L Λ G xs vs
  | .loc k, v => ∃ a, Λ[k]? = some a ∧ v = .ref a
  | .scr ns, v => ∃ a, v = .ref a ∧ SqL L.K G a (ns.map V.int)
def RepL (L : Lk) (Λ : List Addr) (G : Hp) : List PV → List V → Prop
  | [], vs => vs = []
  | x :: xs, vs => ∃ v r, vs = v :: r ∧ Rep L Λ G x v ∧ RepL L Λ G xs r
end

def Sub (G H : Hp) : Prop := ∀ a o, G a = some o → H a = some o
theorem Sub.refl {G : Hp} : Sub G G := fun _ _ h => h
theorem Sub.trans {G H J : Hp} (a : Sub G H) (b : Sub H J) : Sub G J := fun c o h => b c o (a c o h)
theorem Sub.upd {G : Hp} {a : Addr} {o : HO} (h : G a = none) : Sub G (upd G a o) := fun b u q => by
  rw [upd_ne (ne_of_none q h)]; exact q
theorem Sub.upd2 {G H : Hp} {a : Addr} {o : HO} (s : Sub G H) : Sub (L2.upd G a o) (L2.upd H a o) := fun b u q => by
  unfold L2.upd at *
  by_cases e : b = a
  · rw [if_pos e] at q ⊢; exact q
  · rw [if_neg e] at q ⊢; exact s b u q
theorem Sub.updR {G H : Hp} {a : Addr} {o : HO} (s : Sub G H) (h : G a = none) : Sub G (L2.upd H a o) := fun b u q => by
  rw [upd_ne (ne_of_none q h)]; exact s b u q
theorem Sub.none {G H : Hp} (s : Sub G H) {a : Addr} (h : H a = none) : G a = none := by
  cases q : G a with
  | none => rfl
  | some o => rw [s a o q] at h; cases h
theorem sqT_mono {K : PySem.W.Frag} {G H : Hp} (s : Sub G H) {a : Addr} {vs : List V} (h : SqT K G a vs) : SqT K H a vs := by
  rcases h with h | h
  · rcases h with h | ⟨o, h⟩
    · exact .inl (.inl (s _ _ h))
    · exact .inl (.inr ⟨o, s _ _ h⟩)
  · exact .inr h
theorem sqL_mono {K : PySem.W.Frag} {G H : Hp} (s : Sub G H) {a : Addr} {vs : List V} (h : SqL K G a vs) : SqL K H a vs := by
  rcases h with h | h
  · rcases h with h | ⟨o, h⟩
    · exact .inl (.inl (s _ _ h))
    · exact .inl (.inr ⟨o, s _ _ h⟩)
  · exact .inr h

def Pre (Λ Λ' : List Addr) : Prop := ∃ l, Λ' = Λ ++ l
theorem Pre.get {Λ Λ' : List Addr} (p : Pre Λ Λ') {k : Nat} {a : Addr} (h : Λ[k]? = some a) : Λ'[k]? = some a := by
  obtain ⟨l, rfl⟩ := p
  rw [List.getElem?_append_left (List.getElem?_eq_some_iff.mp h).1]; exact h

mutual
theorem Rep.mono {L : Lk} {Λ Λ' : List Addr} {G G' : Hp} (s : Sub G G') (p : Pre Λ Λ') : ∀ (x : PV) (v : V), Rep L Λ G x v → Rep L Λ' G' x v
  | .non, v, h => by simpa only [Rep] using h
  | .bl b, v, h => by simpa only [Rep] using h
  | .int i, v, h => by simpa only [Rep] using h
  | .str x, v, h => by simpa only [Rep] using h
  | .lst xs, v, h => by
    simp only [Rep] at h ⊢
    obtain ⟨a, vs, e, h1, h2⟩ := h
    exact ⟨a, vs, e, s _ _ h1, RepL.mono s p xs vs h2⟩
  | .tup xs, v, h => by
    simp only [Rep] at h ⊢
    obtain ⟨a, vs, e, h1, h2⟩ := h
    exact ⟨a, vs, e, sqT_mono s h1, RepL.mono s p xs vs h2⟩
  | .ins c ns xs, v, h => by
    simp only [Rep] at h ⊢
    obtain ⟨a, dx, vs, e, h1, h3, h2⟩ := h
    exact ⟨a, dx, vs, e, s _ _ h1, h3, RepL.mono s p xs vs h2⟩
  | .loc k, v, h => by
    simp only [Rep] at h ⊢
    obtain ⟨a, h1, e⟩ := h
    exact ⟨a, p.get h1, e⟩
  | .scr ns, v, h => by
    simp only [Rep] at h ⊢
    obtain ⟨a, e, h1⟩ := h
    exact ⟨a, e, sqL_mono s h1⟩
theorem RepL.mono {L : Lk} {Λ Λ' : List Addr} {G G' : Hp} (s : Sub G G') (p : Pre Λ Λ') : ∀ (xs : List PV) (vs : List V), RepL L Λ G xs vs → RepL L Λ' G' xs vs
  | [], vs, h => by simpa only [RepL] using h
  | x :: xs, vs, h => by
    simp only [RepL] at h ⊢
    obtain ⟨v, r, e, h1, h2⟩ := h
    exact ⟨v, r, e, Rep.mono s p x v h1, RepL.mono s p xs r h2⟩
end

section
variable {L : Lk} {Λ : List Addr} {G : Hp}
theorem repL_nil : RepL L Λ G [] [] := by simp only [RepL]
theorem repL_cons {x : PV} {xs : List PV} {v : V} {vs : List V} (h : Rep L Λ G x v) (t : RepL L Λ G xs vs) : RepL L Λ G (x :: xs) (v :: vs) := by
  simp only [RepL]; exact ⟨v, vs, rfl, h, t⟩
theorem RepL.len : ∀ {xs : List PV} {vs : List V}, RepL L Λ G xs vs → xs.length = vs.length
  | [], vs, h => by simp only [RepL] at h; subst h; rfl
  | x :: xs, vs, h => by
    simp only [RepL] at h
    obtain ⟨v, r, rfl, _, t⟩ := h
    rw [List.length_cons, List.length_cons, RepL.len t]
theorem RepL.get : ∀ {xs : List PV} {vs : List V} {i : Nat} {x : PV}, RepL L Λ G xs vs → xs[i]? = some x → ∃ v, vs[i]? = some v ∧ Rep L Λ G x v
  | [], _, _, _, _, e => by simp at e
  | y :: xs, vs, 0, x, h, e => by
    simp only [RepL] at h
    obtain ⟨v, r, rfl, a, t⟩ := h
    simp at e; subst e
    exact ⟨v, rfl, a⟩
  | y :: xs, vs, i + 1, x, h, e => by
    simp only [RepL] at h
    obtain ⟨v, r, rfl, a, t⟩ := h
    obtain ⟨w, h1, h2⟩ := RepL.get (i := i) t (by simpa using e)
    exact ⟨w, by simpa using h1, h2⟩
theorem RepL.get' : ∀ {xs : List PV} {vs : List V} {i : Nat} {v : V}, RepL L Λ G xs vs → vs[i]? = some v → ∃ x, xs[i]? = some x ∧ Rep L Λ G x v := fun {xs vs i v} h e => by
  have l := h.len
  have hi : i < vs.length := (List.getElem?_eq_some_iff.mp e).1
  obtain ⟨w, h1, h2⟩ := h.get (i := i) (x := xs[i]'(by omega)) (List.getElem?_eq_getElem (by omega))
  rw [h1] at e; cases e
  exact ⟨_, List.getElem?_eq_getElem (by omega), h2⟩
theorem RepL.app : ∀ {xs ys : List PV} {vs ws : List V}, RepL L Λ G xs vs → RepL L Λ G ys ws → RepL L Λ G (xs ++ ys) (vs ++ ws)
  | [], _, vs, _, h, t => by simp only [RepL] at h; subst h; exact t
  | x :: xs, ys, vs, ws, h, t => by
    simp only [RepL] at h
    obtain ⟨v, r, rfl, a, b⟩ := h
    exact repL_cons a (RepL.app b t)
theorem RepL.of : ∀ {xs : List PV} {vs : List V}, xs.length = vs.length → (∀ (i : Nat) (x : PV) (v : V), xs[i]? = some x → vs[i]? = some v → Rep L Λ G x v) → RepL L Λ G xs vs
  | [], [], _, _ => repL_nil
  | [], _ :: _, h, _ => by simp at h
  | _ :: _, [], h, _ => by simp at h
  | x :: xs, v :: vs, h, f => repL_cons (f 0 x v rfl rfl) (RepL.of (by simpa using h) fun i a b h1 h2 => f (i + 1) a b (by simpa using h1) (by simpa using h2))
theorem RepL.set {xs : List PV} {vs : List V} {x : PV} {v : V} (h : RepL L Λ G xs vs) (j : Nat) (r : Rep L Λ G x v) : RepL L Λ G (xs.set j x) (vs.set j v) := by
  have l := h.len
  refine RepL.of (by simpa using l) fun i a b h1 h2 => ?_
  by_cases e : j = i
  · subst e
    have hj : j < xs.length := by
      have := (List.getElem?_eq_some_iff.mp h1).1; simpa using this
    rw [List.getElem?_set_self hj] at h1
    rw [List.getElem?_set_self (by omega)] at h2
    cases h1; cases h2; exact r
  · rw [List.getElem?_set_ne e] at h1 h2
    obtain ⟨w, q1, q2⟩ := h.get h1
    rw [q1] at h2; cases h2; exact q2
theorem RepL.take {xs : List PV} {vs : List V} (h : RepL L Λ G xs vs) (n : Nat) : RepL L Λ G (xs.take n) (vs.take n) := by
  have l := h.len
  refine RepL.of (by simp [l]) fun i a b h1 h2 => ?_
  rw [List.getElem?_take] at h1 h2
  split at h1
  · rw [if_pos (by assumption)] at h2
    obtain ⟨w, q1, q2⟩ := h.get h1
    rw [q1] at h2; cases h2; exact q2
  · cases h1
theorem RepL.drop {xs : List PV} {vs : List V} (h : RepL L Λ G xs vs) (n : Nat) : RepL L Λ G (xs.drop n) (vs.drop n) := by
  have l := h.len
  refine RepL.of (by simp [l]) fun i a b h1 h2 => ?_
  rw [List.getElem?_drop] at h1 h2
  obtain ⟨w, q1, q2⟩ := h.get h1
  rw [q1] at h2; cases h2; exact q2
theorem RepL.erase {xs : List PV} {vs : List V} (h : RepL L Λ G xs vs) (n : Nat) : RepL L Λ G (xs.eraseIdx n) (vs.eraseIdx n) := by
  have l := h.len
  rw [List.eraseIdx_eq_take_drop_succ, List.eraseIdx_eq_take_drop_succ]
  exact (h.take n).app (h.drop (n + 1))
theorem RepL.ints : ∀ {xs : List PV} {vs : List V} {ns : List Int}, RepL L Λ G xs vs → getIs xs = some ns → vs = ns.map V.int
  | [], vs, ns, h, e => by
    simp only [RepL] at h
    simp only [getIs, Option.some.injEq] at e
    subst h; subst e; rfl
  | x :: xs, vs, ns, h, e => by
    simp only [RepL] at h
    obtain ⟨v, r, rfl, a, t⟩ := h
    cases x with
    | int i =>
      simp only [getIs, Option.map_eq_some_iff] at e
      obtain ⟨ms, e1, e2⟩ := e
      subst e2
      simp only [Rep] at a
      subst a
      rw [RepL.ints t e1]; rfl
    | _ => simp [getIs] at e
theorem RepL.bools : ∀ {xs : List PV} {vs : List V} {ns : List Bool}, RepL L Λ G xs vs → getBs xs = some ns → vs = ns.map V.bl
  | [], vs, ns, h, e => by
    simp only [RepL] at h
    simp only [getBs, Option.some.injEq] at e
    subst h; subst e; rfl
  | x :: xs, vs, ns, h, e => by
    simp only [RepL] at h
    obtain ⟨v, r, rfl, a, t⟩ := h
    cases x with
    | bl i =>
      simp only [getBs, Option.map_eq_some_iff] at e
      obtain ⟨ms, e1, e2⟩ := e
      subst e2
      simp only [Rep] at a
      subst a
      rw [RepL.bools t e1]; rfl
    | _ => simp [getBs] at e
theorem RepL.strs : ∀ {xs : List PV} {vs : List V} {ns : List Str}, RepL L Λ G xs vs → getSs xs = some ns → vs = ns.map V.str
  | [], vs, ns, h, e => by
    simp only [RepL] at h
    simp only [getSs, Option.some.injEq] at e
    subst h; subst e; rfl
  | x :: xs, vs, ns, h, e => by
    simp only [RepL] at h
    obtain ⟨v, r, rfl, a, t⟩ := h
    cases x with
    | str i =>
      simp only [getSs, Option.map_eq_some_iff] at e
      obtain ⟨ms, e1, e2⟩ := e
      subst e2
      simp only [Rep] at a
      subst a
      rw [RepL.strs t e1]; rfl
    | _ => simp [getSs] at e
theorem repL_map {α : Type} {f : α → PV} {g : α → V} (h : ∀ a, Rep L Λ G (f a) (g a)) : ∀ l : List α, RepL L Λ G (l.map f) (l.map g)
  | [] => repL_nil
  | a :: l => repL_cons (h a) (repL_map h l)
end

/-- from one moment to a later one -/
structure Stp (Λ : List Addr) (G H : Hp) (Λ' : List Addr) (G' H' : Hp) : Prop where
  g : Sub G G'
  keep : ∀ a o, H a = some o → a ∉ Λ → H' a = some o
  th : ∀ a, H' a = none → H a = none
  fr : ∀ a o, G' a = some o → G a = some o ∨ H a = none
  ext : ∃ l, Λ' = Λ ++ l ∧ ∀ a ∈ l, H a = none
section
variable {Λ Λ1 Λ2 : List Addr} {G H G1 H1 G2 H2 : Hp}
theorem Stp.refl : Stp Λ G H Λ G H := ⟨Sub.refl, fun _ _ h _ => h, fun _ h => h, fun _ _ h => .inl h, [], by simp, fun _ h => nomatch h⟩
theorem Stp.pre (s : Stp Λ G H Λ1 G1 H1) : Pre Λ Λ1 := let ⟨l, e, _⟩ := s.ext; ⟨l, e⟩
theorem Stp.trans (s : Stp Λ G H Λ1 G1 H1) (t : Stp Λ1 G1 H1 Λ2 G2 H2) : Stp Λ G H Λ2 G2 H2 := by
  obtain ⟨l, e, hl⟩ := s.ext
  obtain ⟨m, f, hm⟩ := t.ext
  refine ⟨s.g.trans t.g, fun a o h n => t.keep a o (s.keep a o h n) ?_, fun a h => s.th a (t.th a h), fun a o h => ?_, l ++ m, by rw [f, e, List.append_assoc], fun a ha => ?_⟩
  · rw [e]
    intro z
    rcases List.mem_append.mp z with z | z
    · exact n z
    · rw [hl a z] at h; cases h
  · rcases t.fr a o h with q | q
    · exact s.fr a o q
    · exact .inr (s.th a q)
  · rcases List.mem_append.mp ha with z | z
    · exact hl a z
    · exact s.th a (hm a z)
/-- a new object, frozen or not -/
theorem Stp.laid {a : Addr} {o : HO} (h : H a = none) (s : Sub G H) : Stp Λ G H Λ (upd G a o) (upd H a o) :=
  ⟨Sub.upd (s.none h), fun b u q _ => by rw [upd_ne (ne_of_none q h)]; exact q, fun b q => by
    by_cases e : b = a
    · rw [e]; exact h
    · rw [upd_ne e] at q; exact q, fun b u q => by
    by_cases e : b = a
    · rw [e]; exact .inr h
    · rw [upd_ne e] at q; exact .inl q, [], by simp, fun _ z => nomatch z⟩
theorem Stp.laidO {a : Addr} {o : HO} (h : H a = none) : Stp Λ G H Λ G (upd H a o) :=
  ⟨Sub.refl, fun b u q _ => by rw [upd_ne (ne_of_none q h)]; exact q, fun b q => by
    by_cases e : b = a
    · rw [e]; exact h
    · rw [upd_ne e] at q; exact q, fun b u q => .inl q, [], by simp, fun _ z => nomatch z⟩
end

structure SR (L : Lk) (Λ : List Addr) (G H : Hp) (S : Sto) : Prop where
  sub : Sub G H
  len : Λ.length = S.length
  at_ : ∀ (k : Nat) (a : Addr) (xs : List PV), Λ[k]? = some a → S[k]? = some xs → ∃ vs, H a = some (.lst vs) ∧ RepL L Λ G xs vs
  out : ∀ a ∈ Λ, G a = none
  nd : Λ.Nodup
section
variable {L : Lk} {Λ : List Addr} {G H : Hp} {S : Sto}
theorem SR.there (s : SR L Λ G H S) {a : Addr} (h : a ∈ Λ) : ∃ vs, H a = some (.lst vs) := by
  obtain ⟨k, hk, e⟩ := List.mem_iff_getElem.mp h
  have l := s.len
  obtain ⟨vs, q, _⟩ := s.at_ k a (S[k]'(by omega)) (by rw [List.getElem?_eq_getElem hk, e]) (List.getElem?_eq_getElem (by omega))
  exact ⟨vs, q⟩
theorem SR.ne (s : SR L Λ G H S) {a b : Addr} (h : H a = none) (hb : b ∈ Λ) : b ≠ a := fun e => by
  obtain ⟨vs, q⟩ := s.there hb
  rw [e, h] at q; cases q
/-- a new frozen object -/
theorem SR.laid {a : Addr} {o : HO} (s : SR L Λ G H S) (h : H a = none) : SR L Λ (upd G a o) (upd H a o) S :=
  ⟨s.sub.upd2, s.len, fun k b xs h1 h2 => by
    obtain ⟨vs, q, r⟩ := s.at_ k b xs h1 h2
    exact ⟨vs, by rw [upd_ne (s.ne h (List.mem_of_getElem? h1))]; exact q, r.mono (Sub.upd (s.sub.none h)) ⟨[], by simp⟩⟩,
    fun b hb => by rw [upd_ne (s.ne h hb)]; exact s.out b hb, s.nd⟩
/-- a new object that is not frozen -/
theorem SR.laidO {a : Addr} {o : HO} (s : SR L Λ G H S) (h : H a = none) : SR L Λ G (upd H a o) S :=
  ⟨s.sub.updR (s.sub.none h), s.len, fun k b xs h1 h2 => by
    obtain ⟨vs, q, r⟩ := s.at_ k b xs h1 h2
    exact ⟨vs, by rw [upd_ne (s.ne h (List.mem_of_getElem? h1))]; exact q, r⟩, s.out, s.nd⟩
/-- an object of ours that stands outside is changed -/
theorem SR.chg {a : Addr} {o : HO} (s : SR L Λ G H S) (h : G a = none) (n : a ∉ Λ) : SR L Λ G (upd H a o) S :=
  ⟨s.sub.updR h, s.len, fun k b xs h1 h2 => by
    obtain ⟨vs, q, r⟩ := s.at_ k b xs h1 h2
    have ne : b ≠ a := fun e => n (by rw [← e]; exact List.mem_of_getElem? h1)
    exact ⟨vs, by rw [upd_ne ne]; exact q, r⟩, s.out, s.nd⟩
/-- .. is frozen as it stands -/
theorem SR.frz {a : Addr} {o : HO} (s : SR L Λ G H S) (h : H a = some o) (g : G a = none) (n : a ∉ Λ) : SR L Λ (upd G a o) H S :=
  ⟨fun b u q => by
    by_cases e : b = a
    · rw [e, upd_same] at q; cases q; rw [e]; exact h
    · rw [upd_ne e] at q; exact s.sub b u q, s.len, fun k b xs h1 h2 => by
    obtain ⟨vs, q, r⟩ := s.at_ k b xs h1 h2
    exact ⟨vs, q, r.mono (Sub.upd g) ⟨[], by simp⟩⟩, fun b hb => by
    have ne : b ≠ a := fun e => n (by rw [← e]; exact hb)
    rw [upd_ne ne]; exact s.out b hb, s.nd⟩
/-- .. joins the store -/
theorem SR.new {a : Addr} {xs : List PV} {vs : List V} (s : SR L Λ G H S) (h : H a = some (.lst vs)) (g : G a = none) (n : a ∉ Λ) (r : RepL L Λ G xs vs) : SR L (Λ ++ [a]) G H (S ++ [xs]) := by
  refine ⟨s.sub, by simp [s.len], fun k b ys h1 h2 => ?_, fun b hb => ?_, ?_⟩
  · have l := s.len
    by_cases hk : k < Λ.length
    · rw [List.getElem?_append_left hk] at h1
      rw [List.getElem?_append_left (by omega)] at h2
      obtain ⟨ws, q, r⟩ := s.at_ k b ys h1 h2
      exact ⟨ws, q, r.mono Sub.refl ⟨[a], rfl⟩⟩
    · rw [List.getElem?_append_right (by omega)] at h1 h2
      rw [List.getElem?_singleton] at h1 h2
      by_cases hz : k - Λ.length = 0
      · rw [if_pos hz] at h1
        rw [if_pos (by omega)] at h2
        cases h1; cases h2
        exact ⟨vs, h, r.mono Sub.refl ⟨[_], rfl⟩⟩
      · rw [if_neg hz] at h1; cases h1
  · rcases List.mem_append.mp hb with z | z
    · exact s.out b z
    · rw [List.mem_singleton.mp z]; exact g
  · refine List.nodup_append.mpr ⟨s.nd, by simp, fun x hx y hy => ?_⟩
    rw [List.mem_singleton.mp hy]
    intro e
    exact n (by rw [← e]; exact hx)
/-- a list of the store is changed -/
theorem SR.put {k : Nat} {a : Addr} {ys : List PV} {ws : List V} (s : SR L Λ G H S) (h : Λ[k]? = some a) (r : RepL L Λ G ys ws) : SR L Λ G (upd H a (.lst ws)) (S.set k ys) :=
  ⟨s.sub.updR (s.out a (List.mem_of_getElem? h)), by simp [s.len], fun j b xs h1 h2 => by
    by_cases e : k = j
    · subst e
      have hk : k < S.length := by have := (List.getElem?_eq_some_iff.mp h2).1; simpa using this
      rw [List.getElem?_set_self hk] at h2
      rw [h] at h1
      cases h1; cases h2
      exact ⟨ws, upd_same, r⟩
    · rw [List.getElem?_set_ne e] at h2
      obtain ⟨vs, q, r⟩ := s.at_ j b xs h1 h2
      have nb : b ≠ a := fun z => e (by
        subst z
        have h3 := (List.getElem?_eq_some_iff.mp h).1
        have h4 := (List.getElem?_eq_some_iff.mp h1).1
        exact (List.getElem?_inj h3 s.nd).mp (h.trans h1.symm))
      exact ⟨vs, by rw [upd_ne nb]; exact q, r⟩, s.out, s.nd⟩
end

/-- where a body was entered: the heap, the instance that is made -/
structure Ent where
  h : Hp
  me : Option Addr
instance : CoeFun Ent (fun _ => Addr → Option HO) := ⟨Ent.h⟩
instance : Coe Ent Hp := ⟨Ent.h⟩
/-- what stands in a slot -/
def SlR (L : Lk) (Λ : List Addr) (G H : Hp) (H0 : Ent) : Sl → Option V → Prop
  | .emp, _ => True
  | .val x, o => ∃ v, o = some v ∧ Rep L Λ G x v
  | .own xs, o => ∃ a vs, o = some (.ref a) ∧ H a = some (.lst vs) ∧ RepL L Λ G xs vs ∧ G a = none ∧ a ∉ Λ ∧ H0 a = none
  | .obj c ns xs, o => ∃ a dx vs, o = some (.ref a) ∧ H a = some (.ins (L.cl c) dx (ns.zip vs)) ∧ ns.length = vs.length ∧ RepL L Λ G xs vs ∧ G a = none ∧ a ∉ Λ ∧ H0 a = none ∧ H0.me = some a
def isOwn : Sl → Bool
  | .own _ => true
  | .obj _ _ _ => true
  | _ => false
structure ER (L : Lk) (Λ : List Addr) (G H : Hp) (H0 : Ent) (σ : L2.St) (ρ : Env) : Prop where
  len : σ.length = ρ.length
  at_ : ∀ (i : Nat) (s : Sl) (o : Option V), ρ[i]? = some s → σ[i]? = some o → SlR L Λ G H H0 s o
  dis : ∀ (i j : Nat) (s t : Sl) (a b : Addr), i ≠ j → ρ[i]? = some s → ρ[j]? = some t → isOwn s = true → isOwn t = true → σ[i]? = some (some (.ref a)) → σ[j]? = some (some (.ref b)) → a ≠ b
section
variable {L : Lk} {Λ Λ1 : List Addr} {G H G1 H1 : Hp} {H0 : Ent} {σ : L2.St} {ρ : Env}
theorem Stp.outG (s : Stp Λ G H Λ1 G1 H1) {a : Addr} {o : HO} (h : H a = some o) (g : G a = none) : G1 a = none := by
  cases q : G1 a with
  | none => rfl
  | some u => rcases s.fr a u q with z | z
              · rw [g] at z; cases z
              · rw [h] at z; cases z
theorem Stp.outL (s : Stp Λ G H Λ1 G1 H1) {a : Addr} {o : HO} (h : H a = some o) (n : a ∉ Λ) : a ∉ Λ1 := by
  obtain ⟨l, e, hl⟩ := s.ext
  rw [e]
  intro z
  rcases List.mem_append.mp z with z | z
  · exact n z
  · rw [hl a z] at h; cases h
theorem SlR.step {s : Sl} {o : Option V} (t : Stp Λ G H Λ1 G1 H1) (h : SlR L Λ G H H0 s o) : SlR L Λ1 G1 H1 H0 s o := by
  cases s with
  | emp => trivial
  | val x =>
    obtain ⟨v, e, r⟩ := h
    exact ⟨v, e, r.mono t.g t.pre⟩
  | own xs =>
    obtain ⟨a, vs, e, h1, r, g, n, z⟩ := h
    exact ⟨a, vs, e, t.keep _ _ h1 n, r.mono t.g t.pre, t.outG h1 g, t.outL h1 n, z⟩
  | obj c ns xs =>
    obtain ⟨a, dx, vs, e, h1, l, r, g, n, z⟩ := h
    exact ⟨a, dx, vs, e, t.keep _ _ h1 n, l, r.mono t.g t.pre, t.outG h1 g, t.outL h1 n, z⟩
theorem ER.step (t : Stp Λ G H Λ1 G1 H1) (h : ER L Λ G H H0 σ ρ) : ER L Λ1 G1 H1 H0 σ ρ :=
  ⟨h.len, fun i s o h1 h2 => (h.at_ i s o h1 h2).step t, h.dis⟩
theorem ER.get (h : ER L Λ G H H0 σ ρ) {i : Nat} {s : Sl} (e : ρ[i]? = some s) : ∃ o, σ[i]? = some o ∧ SlR L Λ G H H0 s o := by
  have hi := (List.getElem?_eq_some_iff.mp e).1
  have l := h.len
  have e2 : σ[i]? = some (σ[i]'(by omega)) := List.getElem?_eq_getElem (by omega)
  exact ⟨_, e2, h.at_ i s _ e e2⟩
/-- a slot gets a value -/
theorem ER.set (h : ER L Λ G H H0 σ ρ) (i : Nat) {x : PV} {v : V} (r : Rep L Λ G x v) : ER L Λ G H H0 (σ.set i (some v)) (ρ.set i (.val x)) := by
  have l := h.len
  refine ⟨by simpa using l, fun j s o h1 h2 => ?_, fun j k s t a b ne h1 h2 s1 s2 h3 h4 => ?_⟩
  · by_cases e : i = j
    · subst e
      have hi : i < ρ.length := by have := (List.getElem?_eq_some_iff.mp h1).1; simpa using this
      rw [List.getElem?_set_self hi] at h1
      rw [List.getElem?_set_self (by omega)] at h2
      cases h1; cases h2
      exact ⟨v, rfl, r⟩
    · rw [List.getElem?_set_ne e] at h1 h2
      exact h.at_ j s o h1 h2
  · have go : ∀ {j : Nat} {s : Sl} {o : Option V}, (ρ.set i (.val x))[j]? = some s → isOwn s = true → (σ.set i (some v))[j]? = some o → ρ[j]? = some s ∧ σ[j]? = some o := fun {j s o} h1 h2 h3 => by
      by_cases e : i = j
      · subst e
        have hi : i < ρ.length := by have := (List.getElem?_eq_some_iff.mp h1).1; simpa using this
        rw [List.getElem?_set_self hi] at h1
        cases h1; cases h2
      · rw [List.getElem?_set_ne e] at h1 h3
        exact ⟨h1, h3⟩
    obtain ⟨p1, p2⟩ := go h1 s1 h3
    obtain ⟨p3, p4⟩ := go h2 s2 h4
    exact h.dis j k s t a b ne p1 p3 s1 s2 p2 p4
/-- a slot gets what no other one has -/
theorem ER.setO (h : ER L Λ G H H0 σ ρ) (i : Nat) {s : Sl} {a : Addr} (r : SlR L Λ G H H0 s (some (.ref a))) (ap : ∀ (j : Nat) (t : Sl) (b : Addr), i ≠ j → ρ[j]? = some t → isOwn t = true → σ[j]? = some (some (.ref b)) → b ≠ a) :
    ER L Λ G H H0 (σ.set i (some (.ref a))) (ρ.set i s) := by
  have l := h.len
  refine ⟨by simpa using l, fun j s' o h1 h2 => ?_, fun j k s' t b c ne h1 h2 s1 s2 h3 h4 => ?_⟩
  · by_cases e : i = j
    · subst e
      have hi : i < ρ.length := by have := (List.getElem?_eq_some_iff.mp h1).1; simpa using this
      rw [List.getElem?_set_self hi] at h1
      rw [List.getElem?_set_self (by omega)] at h2
      cases h1; cases h2
      exact r
    · rw [List.getElem?_set_ne e] at h1 h2
      exact h.at_ j s' o h1 h2
  · have me : ∀ {o : Option V} {x : Sl}, (ρ.set i s)[i]? = some x → (σ.set i (some (.ref a)))[i]? = some o → o = some (.ref a) := fun {o x} q q2 => by
      have hi : i < ρ.length := by have := (List.getElem?_eq_some_iff.mp q).1; simpa using this
      rw [List.getElem?_set_self (by omega)] at q2
      exact (Option.some.inj q2).symm
    by_cases e : i = j
    · subst e
      have e1 := me h1 h3
      cases e1
      rw [List.getElem?_set_ne ne] at h2 h4
      exact (ap k t c ne h2 s2 h4).symm
    · by_cases e2 : i = k
      · subst e2
        have e1 := me h2 h4
        cases e1
        rw [List.getElem?_set_ne e] at h1 h3
        exact ap j s' b e h1 s1 h3
      · rw [List.getElem?_set_ne e] at h1 h3
        rw [List.getElem?_set_ne e2] at h2 h4
        exact h.dis j k s' t b c ne h1 h2 s1 s2 h3 h4
theorem ER.emp (h : ER L Λ G H H0 σ ρ) (i : Nat) (o : Option V) : ER L Λ G H H0 (σ.set i o) (ρ.set i .emp) := by
  have l := h.len
  refine ⟨by simpa using l, fun j s o' h1 h2 => ?_, fun j k s t a b ne h1 h2 s1 s2 h3 h4 => ?_⟩
  · by_cases e : i = j
    · subst e
      have hi : i < ρ.length := by have := (List.getElem?_eq_some_iff.mp h1).1; simpa using this
      rw [List.getElem?_set_self hi] at h1
      cases h1
      trivial
    · rw [List.getElem?_set_ne e] at h1 h2
      exact h.at_ j s o' h1 h2
  · have go : ∀ {j : Nat} {s : Sl} {o' : Option V}, (ρ.set i .emp)[j]? = some s → isOwn s = true → (σ.set i o)[j]? = some o' → ρ[j]? = some s ∧ σ[j]? = some o' := fun {j s o'} h1 h2 h3 => by
      by_cases e : i = j
      · subst e
        have hi : i < ρ.length := by have := (List.getElem?_eq_some_iff.mp h1).1; simpa using this
        rw [List.getElem?_set_self hi] at h1
        cases h1; cases h2
      · rw [List.getElem?_set_ne e] at h1 h3
        exact ⟨h1, h3⟩
    obtain ⟨p1, p2⟩ := go h1 s1 h3
    obtain ⟨p3, p4⟩ := go h2 s2 h4
    exact h.dis j k s t a b ne p1 p3 s1 s2 p2 p4
end
end PF

set_option linter.all false
set_option maxRecDepth 100000
namespace PF
open PySem PySem.Spec PyProof.Rows L2

/-! ### readings -/
theorem PE_imp {X : Cx} {e : Expr} {t t' : TE} (h : PE X e t) (k : ∀ σ H Q, t' σ H Q → t σ H Q) : PE X e t' := ⟨fun pins s σ H Q I q => h.run pins s σ H Q I (k σ H Q q)⟩
theorem PT_imp {X : Cx} {e : Expr} {t t' : TT} (h : PT X e t) (k : ∀ σ H Q, t' σ H Q → t σ H Q) : PT X e t' := ⟨fun pins s σ H Q I q => h.run pins s σ H Q I (k σ H Q q)⟩
theorem PW_imp {X : Cx} {e : Expr} {t t' : TT} (h : PW X e t) (k : ∀ σ H Q, t' σ H Q → t σ H Q) : PW X e t' := ⟨fun wh pins s σ H Q I q => h.run wh pins s σ H Q I (k σ H Q q)⟩
theorem PA_imp {X : Cx} {e : List Expr} {t t' : TA} (h : PA X e t) (k : ∀ σ H Q, t' σ H Q → t σ H Q) : PA X e t' := ⟨fun pos pins s σ H Q I q => h.run pos pins s σ H Q I (k σ H Q q)⟩
theorem PS_imp {X : Cx} {e : Stmt} {t t' : TS} (h : PS X e t) (k : ∀ D σ H, t' D σ H → t D σ H) : PS X e t' := ⟨fun pins s σ H D I q => h.run pins s σ H D I (k D σ H q)⟩
theorem PSs_imp {X : Cx} {e : List Stmt} {t t' : TS} (h : PSs X e t) (k : ∀ D σ H, t' D σ H → t D σ H) : PSs X e t' := ⟨fun pins s σ H D I q => h.run pins s σ H D I (k D σ H q)⟩
theorem PI_imp {X : Cx} {tg e : Expr} {t t' : TI} (h : PI X tg e t) (k : ∀ σ H Q, t' σ H Q → t σ H Q) : PI X tg e t' := ⟨fun pins s σ H Q I q => h.run pins s σ H Q I (k σ H Q q)⟩
theorem PI_or {X : Cx} {tg e : Expr} {t t' : TI} (h : PI X tg e t) (h' : PI X tg e t') : PI X tg e (fun σ H Q => t σ H Q ∨ t' σ H Q) :=
  ⟨fun pins s σ H Q I q => q.elim (h.run pins s σ H Q I) (h'.run pins s σ H Q I)⟩

/-- how an exception lies -/
def ExR (L : Lk) (ex : Nat → List Str) (c : Nat) (fs : List PV) (Λ : List Addr) (G : Hp) (cls : Value) (d : Option Addr) : Prop :=
  cls = .ref (L.cl c) ∧ ((fs = [] ∧ ex c = [] ∧ d = none) ∨ ∃ dd vs, d = some dd ∧ G dd = some (.xd ((ex c).zip vs)) ∧ (ex c).length = vs.length ∧ RepL L Λ G fs vs)
/-- an exception that X takes -/
def EX (X : Cx) (σ : L2.St) (cls : Value) (d : Option Addr) (H : Hp) : Prop := ∃ W : WX, Takes X W ∧ W cls d σ H
theorem EX_takes (X : Cx) : Takes X (fun cls d σ H => EX X σ cls d H) := fun u s' ⟨a, B, sI, pins, σ, H, cls, d, e, I, nb, up, sky, na, os, ag, W, t, w⟩ =>
  t u s' ⟨a, B, sI, pins, σ, H, cls, d, e, I, nb, up, sky, na, os, ag, w⟩

/-- the link's own data beside Lk: the fields of exceptions -/
structure Env1 where
  L : Lk
  xf : Nat → List Str
  fa : Nat → Addr
  fd : Nat → FuncData
  ps : Nat → List Str

abbrev KK (α : Type) := α → Sto → List Addr → Hp → Hp → Prop
/-- behind m from a moment on -/
def WP {α : Type} (B : Env1) (X : Cx) (σ : L2.St) (Λ : List Addr) (G H : Hp) (m : M α) (S : Sto) (K : KK α) : Prop := match m S with
  | .ok (a, S') => ∀ Λ' G' H', Stp Λ G H Λ' G' H' → SR B.L Λ' G' H' S' → K a S' Λ' G' H'
  | .exc c fs S' => ∀ cls d Λ' G' H', Stp Λ G H Λ' G' H' → SR B.L Λ' G' H' S' → ExR B.L B.xf c fs Λ' G' cls d → EX X σ cls d H'
  | .stk => False
section
variable {B : Env1} {X : Cx} {σ : L2.St} {Λ : List Addr} {G H : Hp} {S : Sto} {α β : Type}
theorem WP_bnd {m : M α} {f : α → M β} {K : KK β} (h : WP B X σ Λ G H (bnd m f) S K) : WP B X σ Λ G H m S fun a S1 Λ1 G1 H1 => WP B X σ Λ1 G1 H1 (f a) S1 K := by
  unfold WP bnd at *
  cases q : m S with
  | stk => rw [q] at h; exact h
  | exc c fs S' => rw [q] at h; exact h
  | ok p =>
    obtain ⟨a, S1⟩ := p
    rw [q] at h
    simp only [Out.bnd] at h
    intro Λ1 G1 H1 st sr
    cases q2 : f a S1 with
    | stk => rw [q2] at h; exact h
    | exc c fs S' =>
      rw [q2] at h
      exact fun cls d Λ' G' H' t s x => h cls d Λ' G' H' (st.trans t) s x
    | ok p2 =>
      obtain ⟨b, S2⟩ := p2
      rw [q2] at h
      exact fun Λ' G' H' t s => h Λ' G' H' (st.trans t) s
theorem WP_imp {m : M α} {K K' : KK α} (h : WP B X σ Λ G H m S K) (k : ∀ a S' Λ' G' H', m S = .ok (a, S') → Stp Λ G H Λ' G' H' → SR B.L Λ' G' H' S' → K a S' Λ' G' H' → K' a S' Λ' G' H') : WP B X σ Λ G H m S K' := by
  unfold WP at *
  cases q : m S with
  | stk => rw [q] at h; exact h
  | exc c fs S' => rw [q] at h; exact h
  | ok p =>
    rw [q] at h
    exact fun Λ' G' H' t s => k _ _ _ _ _ q t s (h Λ' G' H' t s)
theorem WP_ret {a : α} {K : KK α} (h : WP B X σ Λ G H (ret a) S K) : ∀ Λ' G' H', Stp Λ G H Λ' G' H' → SR B.L Λ' G' H' S → K a S Λ' G' H' := h
theorem WP_opt {o : Option α} {K : KK α} (h : WP B X σ Λ G H (opt o) S K) : ∃ a, o = some a ∧ ∀ Λ' G' H', Stp Λ G H Λ' G' H' → SR B.L Λ' G' H' S → K a S Λ' G' H' := by
  cases o with
  | none => exact h.elim
  | some a => exact ⟨a, rfl, h⟩
theorem WP_stuck {K : KK α} (h : WP B X σ Λ G H (stuck : M α) S K) : False := h
end

def isBor : Ex → Bool
  | .bor _ => true
  | _ => false
/-- what is read and not kept -/
def RepB (L : Lk) (Λ : List Addr) (G H : Hp) (x : PV) (v : V) : Prop := Rep L Λ G x v ∨ (∃ xs a vs, x = .lst xs ∧ v = .ref a ∧ H a = some (.lst vs) ∧ RepL L Λ G xs vs ∧ a ∉ Λ) ∨
  ∃ c ns xs a dx vs, x = .ins c ns xs ∧ v = .ref a ∧ H a = some (.ins (L.cl c) dx (ns.zip vs)) ∧ ns.length = vs.length ∧ RepL L Λ G xs vs ∧ False
def RX (L : Lk) (b : Bool) (Λ : List Addr) (G H : Hp) (x : PV) (v : V) : Prop := if b then RepB L Λ G H x v else Rep L Λ G x v
theorem RX.b {L : Lk} {b : Bool} {Λ : List Addr} {G H : Hp} {x : PV} {v : V} (h : RX L b Λ G H x v) : RepB L Λ G H x v := by
  unfold RX at h
  cases b with
  | true => exact h
  | false => exact .inl h
theorem RX.s {L : Lk} {Λ : List Addr} {G H : Hp} {x : PV} {v : V} (h : RX L false Λ G H x v) : Rep L Λ G x v := h
/-- what is read stays where nothing of ours outside is changed: by a step that keeps the slots' own things -/
theorem RepB.lst {L : Lk} {Λ : List Addr} {G H : Hp} {xs : List PV} {v : V} (s : Sub G H) (h : RepB L Λ G H (.lst xs) v) : ∃ a vs, v = .ref a ∧ H a = some (.lst vs) ∧ RepL L Λ G xs vs := by
  rcases h with h | ⟨ys, a, vs, e, e2, h1, h2, _⟩ | ⟨_, _, _, _, _, _, e, _⟩
  · simp only [Rep] at h
    obtain ⟨a, vs, e, h1, h2⟩ := h
    exact ⟨a, vs, e, s _ _ h1, h2⟩
  · cases e; exact ⟨a, vs, e2, h1, h2⟩
  · cases e
theorem RepB.tup {L : Lk} {Λ : List Addr} {G H : Hp} {xs : List PV} {v : V} (s : Sub G H) (h : RepB L Λ G H (.tup xs) v) : ∃ a vs, v = .ref a ∧ SqT L.K H a vs ∧ RepL L Λ G xs vs := by
  rcases h with h | ⟨ys, a, vs, e, e2, h1, h2⟩ | ⟨_, _, _, _, _, _, e, _⟩
  · simp only [Rep] at h
    obtain ⟨a, vs, e, h1, h2⟩ := h
    exact ⟨a, vs, e, sqT_mono s h1, h2⟩
  · cases e
  · cases e
theorem RepB.int {L : Lk} {Λ : List Addr} {G H : Hp} {i : Int} {v : V} (h : RepB L Λ G H (.int i) v) : v = .int i := by
  rcases h with h | ⟨ys, a, vs, e, _⟩ | ⟨_, _, _, _, _, _, e, _⟩
  · simpa only [Rep] using h
  · cases e
  · cases e
theorem RepB.str {L : Lk} {Λ : List Addr} {G H : Hp} {i : Str} {v : V} (h : RepB L Λ G H (.str i) v) : v = .str i := by
  rcases h with h | ⟨ys, a, vs, e, _⟩ | ⟨_, _, _, _, _, _, e, _⟩
  · simpa only [Rep] using h
  · cases e
  · cases e
theorem RepB.bl {L : Lk} {Λ : List Addr} {G H : Hp} {i : Bool} {v : V} (h : RepB L Λ G H (.bl i) v) : v = .bl i := by
  rcases h with h | ⟨ys, a, vs, e, _⟩ | ⟨_, _, _, _, _, _, e, _⟩
  · simpa only [Rep] using h
  · cases e
  · cases e
theorem RepB.non {L : Lk} {Λ : List Addr} {G H : Hp} {v : V} (h : RepB L Λ G H .non v) : v = .non := by
  rcases h with h | ⟨ys, a, vs, e, _⟩ | ⟨_, _, _, _, _, _, e, _⟩
  · simpa only [Rep] using h
  · cases e
  · cases e
theorem RepB.scr {L : Lk} {Λ : List Addr} {G H : Hp} {ns : List Int} {v : V} (s : Sub G H) (h : RepB L Λ G H (.scr ns) v) : ∃ a, v = .ref a ∧ SqL L.K H a (ns.map V.int) := by
  rcases h with h | ⟨ys, a, vs, e, _⟩ | ⟨_, _, _, _, _, _, e, _⟩
  · simp only [Rep] at h
    obtain ⟨a, e, h⟩ := h
    exact ⟨a, e, sqL_mono s h⟩
  · cases e
  · cases e
theorem RepB.loc {L : Lk} {Λ : List Addr} {G H : Hp} {k : Nat} {v : V} (h : RepB L Λ G H (.loc k) v) : ∃ a, Λ[k]? = some a ∧ v = .ref a := by
  rcases h with h | ⟨ys, a, vs, e, _⟩ | ⟨_, _, _, _, _, _, e, _⟩
  · simpa only [Rep] using h
  · cases e
  · cases e
theorem RepB.insR {L : Lk} {Λ : List Addr} {G H : Hp} {c : Nat} {ns : List Str} {xs : List PV} {v : V} (h : RepB L Λ G H (.ins c ns xs) v) : Rep L Λ G (.ins c ns xs) v := by
  rcases h with h | ⟨ys, a, vs, e, _⟩ | ⟨_, _, _, _, _, _, _, _, _, _, _, z⟩
  · exact h
  · cases e
  · exact z.elim
theorem RepB.ins {L : Lk} {Λ : List Addr} {G H : Hp} {c : Nat} {ns : List Str} {xs : List PV} {v : V} (s : Sub G H) (h : RepB L Λ G H (.ins c ns xs) v) :
    ∃ a dx vs, v = .ref a ∧ H a = some (.ins (L.cl c) dx (ns.zip vs)) ∧ ns.length = vs.length ∧ RepL L Λ G xs vs := by
  rcases h with h | ⟨ys, a, vs, e, _⟩ | ⟨c', ns', xs', a, dx, vs, e, e2, h1, h2, h3, _⟩
  · simp only [Rep] at h
    obtain ⟨a, dx, vs, e, h1, h2, h3⟩ := h
    exact ⟨a, dx, vs, e, s _ _ h1, h2, h3⟩
  · cases e
  · cases e; exact ⟨a, dx, vs, e2, h1, h2, h3⟩

/-- a borrowed list behind a step -/
theorem RepB.step {L : Lk} {Λ Λ' : List Addr} {G H G' H' : Hp} {x : PV} {v : V} (h : RepB L Λ G H x v) (t : Stp Λ G H Λ' G' H') : RepB L Λ' G' H' x v := by
  rcases h with h | ⟨ys, a, vs, e, e2, h1, h2, n⟩ | ⟨c', ns', xs', a, dx, vs, e, e2, h1, h2, h3, n⟩
  · exact .inl (h.mono t.g t.pre)
  · exact .inr (.inl ⟨ys, a, vs, e, e2, t.keep _ _ h1 n, h2.mono t.g t.pre, t.outL h1 n⟩)
  · exact n.elim

section
variable (B : Env1) (X : Cx) (pg : Pg) (C : Calls)
/-- the reading of an expression of ours -/
def tE (b : Bool) (f : Env → M PV) : TE := fun σ H Q => ∃ Λ G H0 ρ S, SR B.L Λ G H S ∧ ER B.L Λ G H H0 σ ρ ∧ WP B X σ Λ G H (f ρ) S fun x _ Λ' G' H' => ∀ v, RX B.L b Λ' G' H' x v → Q v H'
/-- .. of a test -/
def tT (f : Env → M Bool) : TT := fun σ H Q => ∃ Λ G H0 ρ S, SR B.L Λ G H S ∧ ER B.L Λ G H H0 σ ρ ∧ WP B X σ Λ G H (f ρ) S fun k _ _ _ H' => Q k H'
/-- .. of arguments -/
def tA (f : Env → M (List PV)) : TA := fun σ H Q => ∃ Λ G H0 ρ S, SR B.L Λ G H S ∧ ER B.L Λ G H H0 σ ρ ∧ WP B X σ Λ G H (f ρ) S fun xs _ Λ' G' H' => ∀ vs, RepL B.L Λ' G' xs vs → Q vs H'
end

/-! ### a value is handed on -/
def OK1 (B : Env1) (Λ : List Addr) (G H : Hp) (S : Sto) (x : PV) (Q : VK) : Prop := ∀ v Λ' G' H', Stp Λ G H Λ' G' H' → SR B.L Λ' G' H' S → Rep B.L Λ' G' x v → Q v H'
section
variable {B : Env1} {Λ : List Addr} {G H : Hp} {S : Sto} {x : PV} {Q : VK}
theorem OK1.same (k : OK1 B Λ G H S x Q) (sr : SR B.L Λ G H S) {v : V} (r : Rep B.L Λ G x v) : Q v H := k v Λ G H .refl sr r
theorem OK1.new (k : OK1 B Λ G H S x Q) (sr : SR B.L Λ G H S) {p : Addr} {o : HO} (h : H p = none) (r : Rep B.L Λ (upd G p o) x (.ref p)) : Q (.ref p) (upd H p o) :=
  k (.ref p) Λ _ _ (Stp.laid h sr.sub) (sr.laid h) r
theorem rep_lst {L : Lk} {p : Addr} {xs : List PV} {vs : List V} (r : RepL L Λ G xs vs) (h : G p = none) : Rep L Λ (upd G p (.lst vs)) (.lst xs) (.ref p) := by
  simp only [Rep]
  exact ⟨p, vs, rfl, upd_same, r.mono (Sub.upd h) ⟨[], by simp⟩⟩
theorem rep_tup {L : Lk} {p : Addr} {xs : List PV} {vs : List V} (r : RepL L Λ G xs vs) (h : G p = none) : Rep L Λ (upd G p (.tup vs)) (.tup xs) (.ref p) := by
  simp only [Rep]
  exact ⟨p, vs, rfl, .inl (.inl upd_same), r.mono (Sub.upd h) ⟨[], by simp⟩⟩
end
/-- an operation on two values of ours -/
def rOp (B : Env1) (f : PV → PV → Option PV) : R2 := fun x y H Q => ∃ Λ G S a b z, SR B.L Λ G H S ∧ RepB B.L Λ G H a x ∧ RepB B.L Λ G H b y ∧ f a b = some z ∧ OK1 B Λ G H S z Q
section
variable {B : Env1} {X : Cx} {a b c : Expr} {pos : Pos} {ba bb bc : Bool} {fa fb fc : Env → M PV}
theorem snd_bin2 {op : Operator} {f : PV → PV → Option PV} (ho : OpR X (binaryOp op) (rOp B f)) (ha : PE X a (tE B X ba fa)) (hb : PE X b (tE B X bb fb)) :
    PE X (.BinOp a op b pos) (tE B X false fun ρ => bnd (fa ρ) fun x => bnd (fb ρ) fun y => opt (f x y)) :=
  PE_imp (pe_op ho ha hb) fun σ H Q ⟨Λ, G, H0, ρ, S, sr, er, h⟩ => ⟨Λ, G, H0, ρ, S, sr, er, WP_imp (WP_bnd h) fun x S1 Λ1 G1 H1 _ t1 s1 h1 v rv =>
    ⟨Λ1, G1, H0, ρ, S1, s1, er.step t1, WP_imp (WP_bnd h1) fun y S2 Λ2 G2 H2 _ t2 s2 h2 w rw =>
      let ⟨z, e, k⟩ := WP_opt h2
      ⟨Λ2, G2, S2, x, y, z, s2, rv.b.step t2, rw.b, e, fun v' Λ' G' H' t s r => k Λ' G' H' t s v' r⟩⟩⟩
end
def opOf : Bop → Operator
  | .add => .Add | .sub => .Sub | .mul => .Mult | .fdiv => .FloorDiv | .mod => .Mod | .pow => .Pow | .shl => .LShift | .shr => .RShift | .band => .BitAnd | .bor => .BitOr | .bxor => .BitXor
theorem line_eq : line = sizeLine := by rw [sizeLine_eq]; rfl
theorem smallI_ok {i : Int} (h : smallI i = true) : -(2 ^ 64) < i ∧ i < 2 ^ 64 := by
  unfold smallI two64 at h
  simp only [Bool.and_eq_true, decide_eq_true_eq] at h
  obtain ⟨h1, h2⟩ := h
  constructor <;> omega
theorem inR_ok {i : Int} (h : inR i = true) : -(2 ^ 62) ≤ i ∧ i < 2 ^ 62 := by
  unfold inR r62 at h
  simp only [Bool.and_eq_true, decide_eq_true_eq] at h
  obtain ⟨h1, h2⟩ := h
  constructor <;> omega
theorem smallI_nat {i : Int} (h : smallI i = true) : i.natAbs < 2 ^ 64 := by
  have := smallI_ok h
  omega
section
variable {B : Env1} {X : Cx}
theorem ints_ok {o : Bop} {i j k : Int} {pins : List (Addr × Obj)} {s : Shared} {σ : L2.St} {H : Hp} {v u : Value} {Q : VK} (I : Inv X pins σ H s) (rx : RelV (.int i) v) (ry : RelV (.int j) u) (e : binI o i j = some k) (q : Q (.int k) H) :
    wpAny (model X.prog X.w) X.A (binaryOp (opOf o) v u) (EP X pins σ Q) X.xe s := by
  cases o with
  | add => cases e; exact op_add pins s σ H _ _ v u Q I rx ry ⟨i, j, rfl, rfl, q⟩
  | sub => cases e; exact op_sub pins s σ H _ _ v u Q I rx ry ⟨i, j, rfl, rfl, q⟩
  | mul =>
    simp only [binI] at e
    split at e
    · rename_i h
      cases e
      refine op_mul pins s σ H _ _ v u Q I rx ry ⟨i, j, rfl, rfl, ?_, q⟩
      rw [Bool.or_eq_true] at h
      exact h.imp smallI_ok smallI_ok
    · cases e
  | fdiv =>
    simp only [binI] at e
    split at e
    · rename_i h
      cases e
      simp only [Bool.and_eq_true, decide_eq_true_eq] at h
      exact op_fdiv pins s σ H _ _ v u Q I rx ry ⟨i, j, rfl, rfl, h, q⟩
    · cases e
  | mod =>
    simp only [binI] at e
    split at e
    · rename_i h
      cases e
      exact op_mod pins s σ H _ _ v u Q I rx ry ⟨i, j, rfl, rfl, h, q⟩
    · cases e
  | pow =>
    simp only [binI] at e
    split at e
    · rename_i h
      cases e
      simp only [Bool.and_eq_true, decide_eq_true_eq] at h
      exact op_pow pins s σ H _ _ v u Q I rx ry ⟨i, j, rfl, rfl, ⟨h.1.1, h.1.2, smallI_nat h.2⟩, q⟩
    · cases e
  | shl =>
    simp only [binI] at e
    split at e
    · rename_i h
      cases e
      simp only [Bool.and_eq_true, decide_eq_true_eq] at h
      exact op_shl pins s σ H _ _ v u Q I rx ry ⟨i, j, rfl, rfl, ⟨h.1.1, h.1.2, smallI_nat h.2⟩, q⟩
    · cases e
  | shr =>
    simp only [binI] at e
    split at e
    · rename_i h
      cases e
      exact op_shr pins s σ H _ _ v u Q I rx ry ⟨i, j, rfl, rfl, h, q⟩
    · cases e
  | band => cases e; exact op_and pins s σ H _ _ v u Q I rx ry ⟨i, j, rfl, rfl, q⟩
  | bor => cases e; exact op_or pins s σ H _ _ v u Q I rx ry ⟨i, j, rfl, rfl, q⟩
  | bxor => cases e; exact op_xor pins s σ H _ _ v u Q I rx ry ⟨i, j, rfl, rfl, q⟩
theorem repL_rep {L : Lk} {Λ : List Addr} {G : Hp} {xs : List PV} {vs : List V} (r : RepL L Λ G xs vs) : ∀ k : Nat, RepL L Λ G (List.replicate k xs).flatten (List.replicate k vs).flatten
  | 0 => repL_nil
  | k + 1 => by
    rw [List.replicate_succ, List.replicate_succ, List.flatten_cons, List.flatten_cons]
    exact r.app (repL_rep r k)
theorem op_bin (hk : X.K = B.L.K) (o : Bop) : OpR X (binaryOp (opOf o)) (rOp B (binP o)) := by
  rintro pins s σ H x y v u Q I rx ry ⟨Λ, G, S, a, b, z, sr, ra, rb, e, k⟩
  unfold binP at e
  split at e
  · rename_i i j
    obtain ⟨n, e1, e2⟩ := Option.map_eq_some_iff.mp e
    subst e2
    rw [ra.int] at rx
    rw [rb.int] at ry
    exact ints_ok I rx ry e1 (k.same sr (by simp only [Rep]))
  · rename_i xs ys
    split at e
    · rename_i hl
      cases e
      obtain ⟨p, vs, e1, h1, r1⟩ := ra.lst sr.sub
      obtain ⟨q, ws, e2, h2, r2⟩ := rb.lst sr.sub
      refine op_cat pins s σ H x y v u Q I rx ry ⟨p, q, vs, ws, e1, e2, h1, h2, by rw [← r1.len, ← r2.len, ← line_eq]; exact hl, fun c hc => ?_⟩
      exact k.new sr hc (rep_lst (r1.app r2) (sr.sub.none hc))
    · cases e
  · rename_i xs ys
    split at e
    · rename_i hl
      cases e
      obtain ⟨p, vs, e1, h1, r1⟩ := ra.tup sr.sub
      obtain ⟨q, ws, e2, h2, r2⟩ := rb.tup sr.sub
      refine op_catA pins s σ H x y v u Q I rx ry ⟨p, q, vs, ws, e1, e2, by rw [hk]; exact h1, by rw [hk]; exact h2, by rw [← r1.len, ← r2.len, ← line_eq]; exact hl, fun n1 => ?_, fun n1 n2 => ?_, fun n1 n2 c hc => ?_⟩
      · have l1 := r1.len
        rw [n1] at l1
        have n0 : xs = [] := List.length_eq_zero_iff.mp l1
        subst n0
        rcases rb with rb | ⟨_, _, _, e, _⟩ | ⟨_, _, _, _, _, _, e, _⟩
        · rw [← e2]; exact k.same sr rb
        · cases e
        · cases e
      · have l1 := r2.len
        rw [n2] at l1
        have n0 : ys = [] := List.length_eq_zero_iff.mp l1
        subst n0
        rcases ra with ra | ⟨_, _, _, e, _⟩ | ⟨_, _, _, _, _, _, e, _⟩
        · rw [← e1]; exact k.same sr (by rw [List.append_nil]; exact ra)
        · cases e
        · cases e
      · exact k.new sr hc (rep_tup (r1.app r2) (sr.sub.none hc))
    · cases e
  · rename_i xs ys
    split at e
    · rename_i hl
      cases e
      rw [ra.str] at rx
      rw [rb.str] at ry
      exact op_add_str pins s σ H _ _ v u Q I rx ry ⟨xs, ys, rfl, rfl, by rw [← line_eq]; exact hl, k.same sr (by simp only [Rep])⟩
    · cases e
  · rename_i xs n
    split at e
    · rename_i hl
      cases e
      simp only [Bool.and_eq_true, decide_eq_true_eq] at hl
      have hr := inR_ok hl.1
      obtain ⟨p, vs, e1, h1, r1⟩ := ra.lst sr.sub
      refine op_rep pins s σ H x y v u Q I rx ry ⟨p, n, vs, e1, rb.int, h1, by omega, by omega, by rw [← r1.len, ← line_eq]; exact hl.2, fun c hc => ?_⟩
      exact k.new sr hc (rep_lst (repL_rep r1 _) (sr.sub.none hc))
    · cases e
  · cases e
end
end PF

set_option linter.all false
set_option maxRecDepth 100000
namespace PF
open PySem PySem.Spec PyProof.Rows L2

/-! ### plain data -/
mutual
theorem toD_ok : ∀ (n : Nat) (x : PV), okN n x = true → ∃ d, toD x = some d ∧ d.canLay0 = true ∧ d.depth ≤ n
  | n, .non, _ => ⟨_, rfl, by simp [PyData.canLay0], by simp [PyData.depth]⟩
  | n, .bl b, _ => ⟨_, rfl, by simp [PyData.canLay0], by simp [PyData.depth]⟩
  | n, .int i, _ => ⟨_, rfl, by simp [PyData.canLay0], by simp [PyData.depth]⟩
  | n, .str x, h => ⟨_, rfl, by simpa [PyData.canLay0, okN] using h, by simp [PyData.depth]⟩
  | n + 1, .lst xs, h => by
    simp only [okN] at h
    obtain ⟨ds, e, h1, h2⟩ := toDs_ok n xs h
    exact ⟨.list ds, by simp [toD, e], by simpa [PyData.canLay0] using h1, by simp only [PyData.depth]; omega⟩
  | n + 1, .tup xs, h => by
    simp only [okN] at h
    obtain ⟨ds, e, h1, h2⟩ := toDs_ok n xs h
    exact ⟨.tuple ds, by simp [toD, e], by simpa [PyData.canLay0] using h1, by simp only [PyData.depth]; omega⟩
  | 0, .lst xs, h => by simp [okN] at h
  | 0, .tup xs, h => by simp [okN] at h
  | n, .ins _ _ _, h => by simp [okN] at h
  | n, .loc _, h => by simp [okN] at h
  | n, .scr _, h => by simp [okN] at h
theorem toDs_ok : ∀ (n : Nat) (xs : List PV), okNs n xs = true → ∃ ds, toDs xs = some ds ∧ PyData.canLayAll0 ds = true ∧ PyData.depthAll ds ≤ n
  | n, [], _ => ⟨[], rfl, by simp [PyData.canLayAll0], by simp [PyData.depthAll]⟩
  | n, x :: xs, h => by
    simp only [okNs, Bool.and_eq_true] at h
    obtain ⟨d, e1, h1, h2⟩ := toD_ok n x h.1
    obtain ⟨ds, e2, h3, h4⟩ := toDs_ok n xs h.2
    exact ⟨d :: ds, by simp [toDs, e1, e2], by simp [PyData.canLayAll0, h1, h3], by simp only [PyData.depthAll]; omega⟩
end
mutual
theorem eqv_eqP : ∀ (x y : PV) (d e : PyData), toD x = some d → toD y = some e → PyData.eqv d e = eqP x y
  | .non, y, d, e, h1, h2 => by
    cases y <;> simp [toD, Option.map_eq_some_iff] at h1 h2 <;> first | (subst h1; subst h2; simp [PyData.eqv, eqP]; done) | (obtain ⟨_, _, h2⟩ := h2; subst h1; subst h2; simp [PyData.eqv, eqP]; done)
  | .bl b, y, d, e, h1, h2 => by
    cases y <;> simp [toD, Option.map_eq_some_iff] at h1 h2 <;> first | (subst h1; subst h2; simp [PyData.eqv, eqP]; done) | (obtain ⟨_, _, h2⟩ := h2; subst h1; subst h2; simp [PyData.eqv, eqP]; done)
  | .int b, y, d, e, h1, h2 => by
    cases y <;> simp [toD, Option.map_eq_some_iff] at h1 h2 <;> first | (subst h1; subst h2; simp [PyData.eqv, eqP]; done) | (obtain ⟨_, _, h2⟩ := h2; subst h1; subst h2; simp [PyData.eqv, eqP]; done)
  | .str b, y, d, e, h1, h2 => by
    cases y <;> simp [toD, Option.map_eq_some_iff] at h1 h2 <;> first | (subst h1; subst h2; simp [PyData.eqv, eqP]; done) | (obtain ⟨_, _, h2⟩ := h2; subst h1; subst h2; simp [PyData.eqv, eqP]; done)
  | .lst xs, y, d, e, h1, h2 => by
    cases y with
    | lst ys =>
      simp only [toD, Option.map_eq_some_iff] at h1 h2
      obtain ⟨ds, q1, rfl⟩ := h1
      obtain ⟨es, q2, rfl⟩ := h2
      simp only [PyData.eqv, eqP]
      exact eqvs_eqPs xs ys ds es q1 q2
    | _ => simp [toD, Option.map_eq_some_iff] at h1 h2 <;> obtain ⟨_, _, h1⟩ := h1 <;> first | (subst h1; subst h2; simp [PyData.eqv, eqP]; done) | (obtain ⟨_, _, h2⟩ := h2; subst h1; subst h2; simp [PyData.eqv, eqP]; done)
  | .tup xs, y, d, e, h1, h2 => by
    cases y with
    | tup ys =>
      simp only [toD, Option.map_eq_some_iff] at h1 h2
      obtain ⟨ds, q1, rfl⟩ := h1
      obtain ⟨es, q2, rfl⟩ := h2
      simp only [PyData.eqv, eqP]
      exact eqvs_eqPs xs ys ds es q1 q2
    | _ => simp [toD, Option.map_eq_some_iff] at h1 h2 <;> obtain ⟨_, _, h1⟩ := h1 <;> first | (subst h1; subst h2; simp [PyData.eqv, eqP]; done) | (obtain ⟨_, _, h2⟩ := h2; subst h1; subst h2; simp [PyData.eqv, eqP]; done)
  | .ins _ _ _, y, d, e, h1, h2 => by simp [toD] at h1
  | .loc _, y, d, e, h1, h2 => by simp [toD] at h1
  | .scr _, y, d, e, h1, h2 => by simp [toD] at h1
theorem eqvs_eqPs : ∀ (xs ys : List PV) (ds es : List PyData), toDs xs = some ds → toDs ys = some es → PyData.eqvAll ds es = eqPs xs ys
  | [], [], ds, es, h1, h2 => by simp [toDs] at h1 h2; subst h1; subst h2; simp [PyData.eqvAll, eqPs]
  | [], y :: ys, ds, es, h1, h2 => by
    simp only [toDs] at h1 h2
    cases h1
    split at h2
    · cases h2; simp [PyData.eqvAll, eqPs]
    · cases h2
  | x :: xs, [], ds, es, h1, h2 => by
    simp only [toDs] at h1 h2
    cases h2
    split at h1
    · cases h1; simp [PyData.eqvAll, eqPs]
    · cases h1
  | x :: xs, y :: ys, ds, es, h1, h2 => by
    simp only [toDs] at h1 h2
    split at h1
    · rename_i d1 ds1 a1 a2
      split at h2
      · rename_i d2 ds2 b1 b2
        cases h1; cases h2
        simp only [PyData.eqvAll, eqPs]
        rw [eqv_eqP x y d1 d2 a1 b1, eqvs_eqPs xs ys ds1 ds2 a2 b2]
      · cases h2
    · cases h1
end
mutual
theorem Dp_of {L : Lk} {Λ : List Addr} {G H : Hp} (s : Sub G H) : ∀ (x : PV) (v : V) (d : PyData), Rep L Λ G x v → toD x = some d → Dp L.K H v d
  | .non, v, d, r, e => by simp only [Rep] at r; simp only [toD, Option.some.injEq] at e; subst r; subst e; exact .non
  | .bl b, v, d, r, e => by simp only [Rep] at r; simp only [toD, Option.some.injEq] at e; subst r; subst e; exact .bl b
  | .int b, v, d, r, e => by simp only [Rep] at r; simp only [toD, Option.some.injEq] at e; subst r; subst e; exact .int b
  | .str b, v, d, r, e => by simp only [Rep] at r; simp only [toD, Option.some.injEq] at e; subst r; subst e; exact .str b
  | .lst xs, v, d, r, e => by
    simp only [Rep] at r
    simp only [toD, Option.map_eq_some_iff] at e
    obtain ⟨a, vs, rfl, h1, h2⟩ := r
    obtain ⟨ds, q, rfl⟩ := e
    exact .lst (SqL.of (s _ _ h1)) (DpAll_of s xs vs ds h2 q)
  | .tup xs, v, d, r, e => by
    simp only [Rep] at r
    simp only [toD, Option.map_eq_some_iff] at e
    obtain ⟨a, vs, rfl, h1, h2⟩ := r
    obtain ⟨ds, q, rfl⟩ := e
    exact .tup (sqT_mono s h1) (DpAll_of s xs vs ds h2 q)
  | .ins _ _ _, v, d, r, e => by simp [toD] at e
  | .loc _, v, d, r, e => by simp [toD] at e
  | .scr _, v, d, r, e => by simp [toD] at e
theorem DpAll_of {L : Lk} {Λ : List Addr} {G H : Hp} (s : Sub G H) : ∀ (xs : List PV) (vs : List V) (ds : List PyData), RepL L Λ G xs vs → toDs xs = some ds → DpAll L.K H vs ds
  | [], vs, ds, r, e => by simp only [RepL] at r; simp only [toDs, Option.some.injEq] at e; subst r; subst e; exact .nil
  | x :: xs, vs, ds, r, e => by
    simp only [RepL] at r
    obtain ⟨v, w, rfl, h1, h2⟩ := r
    simp only [toDs] at e
    split at e
    · rename_i d1 ds1 a1 a2
      cases e
      exact .cons (Dp_of s x v d1 h1 a1) (DpAll_of s xs w ds1 h2 a2)
    · cases e
end
theorem DpB_of {L : Lk} {Λ : List Addr} {G H : Hp} (s : Sub G H) {x : PV} {v : V} {d : PyData} (r : RepB L Λ G H x v) (e : toD x = some d) : Dp L.K H v d := by
  rcases r with r | ⟨xs, a, vs, rfl, rfl, h1, h2, _⟩ | ⟨c, ns, xs, a, dx, vs, rfl, _⟩
  · exact Dp_of s x v d r e
  · simp only [toD, Option.map_eq_some_iff] at e
    obtain ⟨ds, q, rfl⟩ := e
    exact .lst (SqL.of h1) (DpAll_of s xs vs ds h2 q)
  · simp [toD] at e

/-! ### comparisons -/
def copOf : Cop → CmpOp
  | .eq => .Eq | .ne => .NotEq | .lt => .Lt | .le => .LtE | .gt => .Gt | .ge => .GtE | .isn => .Is | .notn => .IsNot | .in_ => .In | .nin => .NotIn
section
variable {B : Env1} {X : Cx}
theorem ltI_ok {a b : PV} {k : Bool} (e : ltI a b = some k) : (∃ i j, a = .int i ∧ b = .int j ∧ k = decide (i < j)) ∨ ∃ x y, a = .str x ∧ b = .str y ∧ k = strLt x y := by
  unfold ltI at e
  split at e
  · cases e; exact .inl ⟨_, _, rfl, rfl, rfl⟩
  · cases e; exact .inr ⟨_, _, rfl, rfl, rfl⟩
  · cases e
theorem flat_rep {L : Lk} {Λ : List Addr} {G : Hp} {x : PV} {v : V} (r : Rep L Λ G x v) (f : flatP x = true) : flatV v = true := by
  cases x <;> simp only [Rep] at r <;> first | (subst r; rfl) | (simp [flatP] at f)
theorem flatB_rep {L : Lk} {Λ : List Addr} {G H : Hp} {x : PV} {v : V} (r : RepB L Λ G H x v) (f : flatP x = true) : Rep L Λ G x v := by
  rcases r with r | ⟨xs, a, vs, rfl, _⟩ | ⟨c, ns, xs, a, dx, vs, rfl, _⟩
  · exact r
  · simp [flatP] at f
  · simp [flatP] at f
theorem eqV_rep {L : Lk} {Λ : List Addr} {G : Hp} {x y : PV} {v u : V} (r : Rep L Λ G x v) (q : Rep L Λ G y u) (f : flatP x = true) (g : flatP y = true) : eqV v u = eqP x y := by
  cases x <;> simp only [Rep] at r <;> (first | subst r | (simp [flatP] at f; done)) <;> cases y <;> simp only [Rep] at q <;> (first | (subst q; simp [eqV, eqP]) | (simp [flatP] at g))
theorem flats_rep {L : Lk} {Λ : List Addr} {G : Hp} : ∀ {xs : List PV} {vs : List V}, RepL L Λ G xs vs → xs.all flatP = true → vs.all flatV = true
  | [], vs, r, _ => by simp only [RepL] at r; subst r; rfl
  | x :: xs, vs, r, f => by
    simp only [RepL] at r
    obtain ⟨v, w, rfl, a, t⟩ := r
    rw [List.all_cons, Bool.and_eq_true] at f ⊢
    exact ⟨flat_rep a f.1, flats_rep t f.2⟩
theorem any_rep {L : Lk} {Λ : List Addr} {G : Hp} {x : PV} {v : V} (r : Rep L Λ G x v) (f : flatP x = true) : ∀ {xs : List PV} {vs : List V}, RepL L Λ G xs vs → xs.all flatP = true → (vs.any fun y => eqV y v) = xs.any fun z => eqP z x
  | [], vs, q, _ => by simp only [RepL] at q; subst q; rfl
  | y :: xs, vs, q, g => by
    simp only [RepL] at q
    obtain ⟨u, w, rfl, a, t⟩ := q
    rw [List.all_cons, Bool.and_eq_true] at g
    rw [List.any_cons, List.any_cons, eqV_rep a r g.1 f, any_rep r f t g.2]
theorem inP_ok {L : Lk} {Λ : List Addr} {G H : Hp} {a b : PV} {k : Bool} {x y : V} (s : Sub G H) (ra : RepB L Λ G H a x) (rb : RepB L Λ G H b y) (e : inP a b = some k) :
    ∃ p vs, y = .ref p ∧ (SqL L.K H p vs ∨ SqT L.K H p vs) ∧ flatV x = true ∧ vs.all flatV = true ∧ inV x vs = k := by
  unfold inP at e
  split at e
  · rename_i ys hy
    split at e
    · rename_i hf
      cases e
      rw [Bool.and_eq_true] at hf
      have r := flatB_rep ra hf.1
      have key : ∀ {vs : List V}, RepL L Λ G ys vs → flatV x = true ∧ vs.all flatV = true ∧ inV x vs = ys.any fun z => eqP z a := fun t => ⟨flat_rep r hf.1, flats_rep t hf.2, any_rep r hf.1 t hf.2⟩
      cases b with
      | lst zs =>
        cases hy
        obtain ⟨p, vs, e, h1, t⟩ := rb.lst s
        exact ⟨p, vs, e, .inl (SqL.of h1), key t⟩
      | tup zs =>
        cases hy
        obtain ⟨p, vs, e, h1, t⟩ := rb.tup s
        exact ⟨p, vs, e, .inr h1, key t⟩
      | _ => cases hy
    · cases e
  · cases e
theorem fin_k {pins : List (Addr × Obj)} {σ : L2.St} {H : Hp} {s : Shared} {Q : VK} {k : Bool} (I : Inv X pins σ H s) (q : Q (.bl k) H) {k' : Bool} (e : k' = k) : EP X pins σ Q (.bool k') s := by
  subst e
  exact ⟨.bl k', H, I, rfl, q⟩
theorem isS_ok {a : PV} (h : isS a = true) : ∃ x, a = .str x := by
  cases a <;> first | exact ⟨_, rfl⟩ | cases h
theorem op_cmp (hk : X.K = B.L.K) (hu : X.A.units + 64 < cLine) (o : Cop) (ho : o ≠ .isn ∧ o ≠ .notn) : OpR X (compareOp (copOf o)) (rOp B fun x y => (cmpP o x y).map .bl) := by
  rintro pins s σ H x y v u Q I rx ry ⟨Λ, G, S, a, b, z, sr, ra, rb, e, k⟩
  obtain ⟨c, e', e2⟩ := Option.map_eq_some_iff.mp e
  subst e2
  have e := e'
  have q : Q (.bl c) H := k.same sr (by simp only [Rep])
  cases o with
  | isn => exact absurd rfl ho.1
  | notn => exact absurd rfl ho.2
  | eq =>
    simp only [cmpP] at e
    split at e
    · rename_i hh
      cases e
      by_cases hS : (isS a && isS b) = true
      · rw [Bool.and_eq_true] at hS
        obtain ⟨m, rfl⟩ := isS_ok hS.1
        obtain ⟨m', rfl⟩ := isS_ok hS.2
        rw [ra.str] at rx
        rw [rb.str] at ry
        refine op_eq pins s σ H (.str m) (.str m') v u Q I rx ry ⟨rfl, ?_⟩
        rw [dec_str, show (m == m') = eqP (.str m) (.str m') by simp only [eqP]]
        exact q
      rw [Bool.eq_false_iff.mpr hS, Bool.false_or, Bool.and_eq_true] at hh
      obtain ⟨d, e1, c1, l1⟩ := toD_ok 64 a hh.1
      obtain ⟨d', e2, c2, l2⟩ := toD_ok 64 b hh.2
      refine op_eqD hu pins s σ H x y v u Q I rx ry ⟨d, d', by rw [hk]; exact DpB_of sr.sub ra e1, by rw [hk]; exact DpB_of sr.sub rb e2, ?_, ?_, by rw [eqv_eqP a b d d' e1 e2]; exact q⟩
      · simp [SeqAt.shaped, c1, l1]
      · simp [SeqAt.shaped, c2, l2]
    · cases e
  | ne =>
    simp only [cmpP] at e
    split at e
    · rename_i hh
      cases e
      by_cases hS : (isS a && isS b) = true
      · rw [Bool.and_eq_true] at hS
        obtain ⟨m, rfl⟩ := isS_ok hS.1
        obtain ⟨m', rfl⟩ := isS_ok hS.2
        rw [ra.str] at rx
        rw [rb.str] at ry
        refine op_ne pins s σ H (.str m) (.str m') v u Q I rx ry ⟨rfl, ?_⟩
        rw [dec_str, show (m == m') = eqP (.str m) (.str m') by simp only [eqP]]
        exact q
      rw [Bool.eq_false_iff.mpr hS, Bool.false_or, Bool.and_eq_true] at hh
      obtain ⟨d, e1, c1, l1⟩ := toD_ok 64 a hh.1
      obtain ⟨d', e2, c2, l2⟩ := toD_ok 64 b hh.2
      refine op_neD hu pins s σ H x y v u Q I rx ry ⟨d, d', by rw [hk]; exact DpB_of sr.sub ra e1, by rw [hk]; exact DpB_of sr.sub rb e2, ?_, ?_, by rw [eqv_eqP a b d d' e1 e2]; exact q⟩
      · simp [SeqAt.shaped, c1, l1]
      · simp [SeqAt.shaped, c2, l2]
    · cases e
  | lt =>
    rcases ltI_ok (by simpa only [cmpP] using e) with ⟨i, j, rfl, rfl, rfl⟩ | ⟨i, j, rfl, rfl, rfl⟩
    · exact op_lt pins s σ H x y v u Q I rx ry ⟨i, j, ra.int, rb.int, q⟩
    · rw [ra.str] at rx
      rw [rb.str] at ry
      obtain ⟨t, rfl⟩ := rx
      obtain ⟨t', rfl⟩ := ry
      exact P.lt_str (fin_k I q rfl)
  | gt =>
    rcases ltI_ok (by simpa only [cmpP] using e) with ⟨i, j, rfl, rfl, rfl⟩ | ⟨i, j, rfl, rfl, rfl⟩
    · exact op_gt pins s σ H x y v u Q I rx ry ⟨j, i, ra.int, rb.int, q⟩
    · rw [ra.str] at rx
      rw [rb.str] at ry
      obtain ⟨t, rfl⟩ := rx
      obtain ⟨t', rfl⟩ := ry
      exact P.gt_str (fin_k I q rfl)
  | le =>
    cases a <;> cases b <;> simp only [cmpP] at e <;> first | (cases e; done) | skip
    · cases e
      exact op_le pins s σ H x y v u Q I rx ry ⟨_, _, ra.int, rb.int, q⟩
    · cases e
      rw [ra.str] at rx
      rw [rb.str] at ry
      obtain ⟨t, rfl⟩ := rx
      obtain ⟨t', rfl⟩ := ry
      exact P.le_str (fin_k I q (by simp [strLt]))
  | ge =>
    cases a <;> cases b <;> simp only [cmpP] at e <;> first | (cases e; done) | skip
    · cases e
      exact op_ge pins s σ H x y v u Q I rx ry ⟨_, _, ra.int, rb.int, q⟩
    · cases e
      rw [ra.str] at rx
      rw [rb.str] at ry
      obtain ⟨t, rfl⟩ := rx
      obtain ⟨t', rfl⟩ := ry
      exact P.ge_str (fin_k I q (by simp [strLt]))
  | in_ =>
    obtain ⟨p, vs, e1, e2, e3, e4, e5⟩ := inP_ok sr.sub ra rb (by simpa only [cmpP] using e)
    exact op_in_seq pins s σ H x y v u Q I rx ry ⟨p, vs, e1, by rw [hk]; exact e2, e3, e4, by rw [e5]; exact q⟩
  | nin =>
    simp only [cmpP] at e
    obtain ⟨k', e6, e7⟩ := Option.map_eq_some_iff.mp e
    obtain ⟨p, vs, e1, e2, e3, e4, e5⟩ := inP_ok sr.sub ra rb e6
    exact op_notIn_seq pins s σ H x y v u Q I rx ry ⟨p, vs, e1, by rw [hk]; exact e2, e3, e4, by rw [e5, if_pos rfl, e7]; exact q⟩
end
end PF

set_option linter.all false
namespace PF
open PySem PySem.Spec PyProof.Rows L2
theorem ref_of {v : V} {u : Value} {a : Addr} (h : RelV v u) (e : v = .ref a) : u = .ref a := by
  subst e
  exact h
theorem call_reprD {X : Cx} (hg : X.A.guards = some []) (hu : X.A.units + 64 < cLine) : CallR X (.builtin "repr") (fun xs H Q => ∃ a d, xs = [.ref a] ∧ Dp X.K H (.ref a) d ∧ d.hasDict = false ∧ d.showable = true ∧ d.depth ≤ 60 ∧ d.shown.length ≤ line ∧ Q (.str d.shown) H) := by
  intro pins s σ H xs us Q I r h
  obtain ⟨a, d, rfl, hd, h1, h2, h3, h4, q⟩ := h
  obtain ⟨u, rfl, t⟩ := vals1 r
  obtain ⟨as, rd⟩ := Dp.reads I d _ u hd t
  have e := ref_of t rfl
  subst e
  exact repr_of_reads' rd h2 (PyData.noDict_hsm h1) hg (by omega) (fun _ _ e => e) (fun h' u tk hk => ⟨.str d.shown, H, I.turnedL (ch := []) (fun b o _ e => hk b o e) (fun b hb => nomatch hb), ⟨_, rfl⟩, q⟩) (by rw [← line_eq]; exact h4)
theorem reprP_ok {x z : PV} (e : reprP x = some z) : ∃ d, toD x = some d ∧ d.hasDict = false ∧ d.showable = true ∧ d.depth ≤ 60 ∧ d.shown.length ≤ line ∧ z = .str d.shown := by
  unfold reprP at e
  split at e
  · rename_i h
    obtain ⟨d, h1, h2, h3⟩ := toD_ok 60 x h
    rw [h1] at e
    dsimp only at e
    split at e
    · rename_i hk
      rw [Bool.and_eq_true, decide_eq_true_eq] at hk
      exact ⟨d, h1, PyData.hasDict_of_canLay d h2, hk.1, h3, hk.2, (Option.some.inj e).symm⟩
    · cases e
  · cases e
end PF

set_option linter.all false
set_option maxRecDepth 100000
namespace PF
open PySem PySem.Spec PyProof.Rows L2

/-- what is known of the frame that runs: n calls deep, its names, its scope, the names that may be stored -/
structure XOk (B : Env1) (n : Nat) (N : List Str) (sc : Scope) (W : List Str) (X : Cx) : Prop where
  prog : X.prog = B.L.P
  w : X.w = B.L.w
  K : X.K = B.L.K
  mg : X.mg = B.L.mg
  base : X.base = B.L.base
  nN : X.N = N
  nd : N.Nodup
  nsc : X.env.scope = sc
  calm : X.calm = true
  room : Room n X.A
  gu : X.A.guards = some []
  po : PassesOwn (model X.prog X.w) X.A X.env X.xe
  st : ∀ x ∈ W, L2.Loc sc x ∧ (X.fn x = true ∨ sc.names.lookup x = some .local)

/-! ### forms of the text -/
def gd : Expr → Bool
  | .Starred _ _ => false
  | .Slice _ _ _ _ => false
  | .Set _ _ _ => false
  | _ => true
def nosup : Expr → Bool
  | .Call (.Name _ _) [] [] _ => false
  | _ => true
theorem star_cons {e : Expr} {es : List Expr} {env : PySem.Env} (h : gd e = true) : starEach (e :: es) env = (false, eval e env) :: starEach es env := by
  cases e <;> first | rfl | cases h
theorem mark_no {op : CmpOp} {b : Expr} (h : gd b = true) : behindInMarks op b = false := by
  cases b <;> first | rfl | cases h
theorem plain_ix {b : Expr} (h : gd b = true) : PlainIx b := by
  intro o i
  cases b <;> first | rfl | cases h
theorem fold_no {e : Expr} {env : PySem.Env} (h : gd e = true) : ∀ x, foldedSetIterable e env x = pure x := by
  intro x
  cases e <;> first | rfl | cases h
theorem att_base {o : Expr} {f : Str} {env : PySem.Env} {w : Sem Value} (h : nosup o = true) : attributeBase o f env w = w := by
  cases o with
  | Call g as ks p =>
    cases g with
    | Name x q =>
      cases as with
      | nil =>
        cases ks with
        | nil => cases h
        | cons _ _ => rfl
      | cons _ _ => rfl
    | _ => rfl
  | _ => rfl
/-- as a test it is its value's truth -/
def plainT : Expr → Bool
  | .UnaryOp .Not _ _ => false
  | .BoolOp _ _ _ => false
  | .IfExp _ _ _ _ => false
  | .Compare _ _ _ _ => false
  | _ => true
theorem true_plain {e : Expr} {env : PySem.Env} (h : plainT e = true) : ∀ whole, isTrue e env whole = (do let v ← whole; standAt e.pos; holding [v] (truthy v)) := by
  intro whole
  cases e with
  | UnaryOp o a p =>
    cases o with
    | Not => cases h
    | _ => rfl
  | BoolOp _ _ _ => cases h
  | IfExp _ _ _ _ => cases h
  | Compare _ _ _ _ => cases h
  | _ => rfl

structure SE (B : Env1) (X : Cx) (b : Bool) (e : Expr) (f : Env → M PV) : Prop where
  pe : PE X e (tE B X b f)
  gd : gd e = true
structure SA (B : Env1) (X : Cx) (es : List Expr) (f : Env → M (List PV)) : Prop where
  pa : PA X es (tA B X f)
  gd : es.all PF.gd = true

section
variable {B : Env1} {X : Cx} {n : Nat} {N W : List Str} {sc : Scope} {pos : Pos}

/-! ### names, constants -/
def constP : Const → Option PV
  | .none => some .non
  | .bool b => some (.bl b)
  | .int i => some (.int i)
  | .str x => some (.str x)
  | _ => none
theorem snd_cst {c : Const} {v : PV} {k : Nat} (h : constP c = some v) : SE B X false (.Constant c k pos) (fun _ => ret v) := by
  refine ⟨?_, rfl⟩
  cases c with
  | none => cases h; exact PE_imp pe_non fun σ H Q ⟨Λ, G, H0, ρ, S, sr, er, h⟩ => WP_ret h Λ G H .refl sr _ (by simp only [RX, Rep, Bool.false_eq_true, if_false])
  | bool b => cases h; exact PE_imp pe_bl fun σ H Q ⟨Λ, G, H0, ρ, S, sr, er, h⟩ => WP_ret h Λ G H .refl sr _ (by simp only [RX, Rep, Bool.false_eq_true, if_false])
  | int i => cases h; exact PE_imp pe_int fun σ H Q ⟨Λ, G, H0, ρ, S, sr, er, h⟩ => WP_ret h Λ G H .refl sr _ (by simp only [RX, Rep, Bool.false_eq_true, if_false])
  | str x => cases h; exact PE_imp pe_str fun σ H Q ⟨Λ, G, H0, ρ, S, sr, er, h⟩ => WP_ret h Λ G H .refl sr _ (by simp only [RX, Rep, Bool.false_eq_true, if_false])
  | _ => cases h
theorem rd_slot {Λ : List Addr} {G H : Hp} {H0 : Ent} {σ : L2.St} {ρ : Env} {i : Nat} {x : PV} {S S' : Sto} (er : ER B.L Λ G H H0 σ ρ) (h : rdV ρ i S = .ok (x, S')) : S' = S ∧ ∃ v, σ[i]? = some (some v) ∧ Rep B.L Λ G x v := by
  unfold rdV at h
  cases e : ρ[i]? with
  | none => rw [e] at h; cases h
  | some s =>
    rw [e] at h
    obtain ⟨o, e2, r⟩ := er.get e
    cases s with
    | val y =>
      cases h
      obtain ⟨v, rfl, r⟩ := r
      exact ⟨rfl, v, e2, r⟩
    | _ => cases h
theorem rd_slotB {Λ : List Addr} {G H : Hp} {H0 : Ent} {σ : L2.St} {ρ : Env} {i : Nat} {x : PV} {S S' : Sto} (er : ER B.L Λ G H H0 σ ρ) (h : rdB ρ i S = .ok (x, S')) : S' = S ∧ ∃ v, σ[i]? = some (some v) ∧ RepB B.L Λ G H x v := by
  unfold rdB at h
  cases e : ρ[i]? with
  | none => rw [e] at h; cases h
  | some s =>
    rw [e] at h
    obtain ⟨o, e2, r⟩ := er.get e
    cases s with
    | val y =>
      cases h
      obtain ⟨v, rfl, r⟩ := r
      exact ⟨rfl, v, e2, .inl r⟩
    | own y =>
      cases h
      obtain ⟨a, vs, rfl, h1, r, g, m, _⟩ := r
      exact ⟨rfl, _, e2, .inr (.inl ⟨_, a, vs, rfl, rfl, h1, r, m⟩)⟩
    | obj c ns y => cases h
    | emp => cases h
theorem WP_ok {α : Type} {σ : L2.St} {Λ : List Addr} {G H : Hp} {S : Sto} {m : M α} {K : KK α} (h : WP B X σ Λ G H m S K) (hn : ∀ c fs S', m S ≠ .exc c fs S') : ∃ a S', m S = .ok (a, S') ∧ ∀ Λ' G' H', Stp Λ G H Λ' G' H' → SR B.L Λ' G' H' S' → K a S' Λ' G' H' := by
  unfold WP at h
  cases q : m S with
  | stk => rw [q] at h; exact h.elim
  | exc c fs S' => exact absurd q (hn c fs S')
  | ok p => rw [q] at h; exact ⟨p.1, p.2, rfl, h⟩
theorem rdV_ne {ρ : Env} {i : Nat} {S : Sto} (c : Nat) (fs : List PV) (S' : Sto) : rdV ρ i S ≠ .exc c fs S' := by
  unfold rdV
  cases ρ[i]? with
  | none => exact fun z => nomatch z
  | some s => cases s <;> exact fun z => nomatch z
theorem rdB_ne {ρ : Env} {i : Nat} {S : Sto} (c : Nat) (fs : List PV) (S' : Sto) : rdB ρ i S ≠ .exc c fs S' := by
  unfold rdB
  cases ρ[i]? with
  | none => exact fun z => nomatch z
  | some s => cases s <;> exact fun z => nomatch z
theorem snd_var (ok : XOk B n N sc W X) {i : Nat} {x : Str} (hi : N[i]? = some x) (hv : Vis sc x) (h1 : (x == ("__debug__" : Str)) = false) (h2 : (x == ("__classdict__" : Str)) = false) : SE B X false (.Name x pos) (fun ρ => rdV ρ i) := by
  refine ⟨PE_imp (pe_var (i := i) (by rw [ok.nN]; exact hi) (by rw [ok.nsc]; exact hv) h1 h2) fun σ H Q ⟨Λ, G, H0, ρ, S, sr, er, h⟩ => ?_, rfl⟩
  obtain ⟨a, S', e, k⟩ := WP_ok h rdV_ne
  obtain ⟨rfl, v, e2, r⟩ := rd_slot er e
  exact ⟨v, e2, k Λ G H .refl sr v r⟩
theorem snd_bor (ok : XOk B n N sc W X) {i : Nat} {x : Str} (hi : N[i]? = some x) (hv : Vis sc x) (h1 : (x == ("__debug__" : Str)) = false) (h2 : (x == ("__classdict__" : Str)) = false) : SE B X true (.Name x pos) (fun ρ => rdB ρ i) := by
  refine ⟨PE_imp (pe_var (i := i) (by rw [ok.nN]; exact hi) (by rw [ok.nsc]; exact hv) h1 h2) fun σ H Q ⟨Λ, G, H0, ρ, S, sr, er, h⟩ => ?_, rfl⟩
  obtain ⟨a, S', e, k⟩ := WP_ok h rdB_ne
  obtain ⟨rfl, v, e2, r⟩ := rd_slotB er e
  exact ⟨v, e2, k Λ G H .refl sr v (by simp only [RX, if_true]; exact r)⟩
/-- a constant of the module -/
def glbP : PV → V → Prop
  | .int i, v => v = .int i
  | .str x, v => v = .str x
  | _, _ => False
theorem snd_glb (ok : XOk B n N sc W X) {x : Str} {v : PV} {u : Value} {y : V} (hg : sc.names.lookup x = some .globalImplicit) (hm : B.L.mg x = some u) (hp : glbP v y) (r : RelV y u) (h1 : (x == ("__debug__" : Str)) = false) : SE B X false (.Name x pos) (fun _ => ret v) := by
  refine ⟨PE_imp (pe_glob (v := y) (by show X.env.kindOf x = _; unfold Env.kindOf; rw [ok.nsc]; exact hg) (by rw [ok.mg]; exact hm) r h1) fun σ H Q ⟨Λ, G, H0, ρ, S, sr, er, h⟩ => ?_, rfl⟩
  refine WP_ret h Λ G H .refl sr y ?_
  cases v <;> simp only [glbP] at hp
  · subst hp; simp only [RX, Rep, Bool.false_eq_true, if_false]
  · subst hp; simp only [RX, Rep, Bool.false_eq_true, if_false]

/-! ### operators -/
variable {a b c : Expr} {ba bb bc : Bool} {fa fb fc : Env → M PV}
theorem snd_bin (ok : XOk B n N sc W X) (o : Bop) (ha : SE B X ba a fa) (hb : SE B X bb b fb) : SE B X false (.BinOp a (opOf o) b pos) (fun ρ => bnd (fa ρ) fun x => bnd (fb ρ) fun y => opt (binP o x y)) :=
  ⟨snd_bin2 (op_bin ok.K o) ha.pe hb.pe, rfl⟩
theorem snd_neg (ha : SE B X ba a fa) : SE B X false (.UnaryOp .USub a pos) (fun ρ => bnd (fa ρ) fun x => match x with
    | .int i => ret (.int (-i))
    | _ => stuck) := by
  refine ⟨PE_imp (pe_un un_neg ha.pe) fun σ H Q ⟨Λ, G, H0, ρ, S, sr, er, h⟩ => ⟨Λ, G, H0, ρ, S, sr, er, WP_imp (WP_bnd h) fun x S1 Λ1 G1 H1 _ t1 s1 h1 v rv => ?_⟩, rfl⟩
  cases x with
  | int i => exact ⟨i, rv.b.int, WP_ret h1 _ _ _ .refl s1 _ (by simp only [RX, Rep, Bool.false_eq_true, if_false])⟩
  | _ => exact (WP_stuck h1).elim
theorem snd_and {rest : List Expr} (ha : SE B X ba a fa) (hb : SE B X bb (.BoolOp .And (b :: rest) pos) fb) : SE B X bb (.BoolOp .And (a :: b :: rest) pos) (fun ρ => bnd (fa ρ) fun x => bnd (bl! x) fun k => if k then fb ρ else ret (.bl false)) := by
  refine ⟨PE_imp (pe_and ha.pe hb.pe) fun σ H Q ⟨Λ, G, H0, ρ, S, sr, er, h⟩ => ⟨Λ, G, H0, ρ, S, sr, er, WP_imp (WP_bnd h) fun x S1 Λ1 G1 H1 _ t1 s1 h1 v rv => ?_⟩, rfl⟩
  cases x with
  | bl k =>
    refine ⟨k, rv.b.bl, ?_⟩
    have h2 := WP_ret (WP_bnd h1) _ _ _ .refl s1
    cases k with
    | true => exact ⟨Λ1, G1, H0, ρ, S1, s1, er.step t1, h2⟩
    | false => exact WP_ret h2 _ _ _ .refl s1 _ (by cases bb <;> simp only [RX, Rep, RepB, Bool.false_eq_true, if_false, if_true, true_or])
  | _ => exact (WP_stuck (WP_bnd h1)).elim
theorem snd_or {rest : List Expr} (ha : SE B X ba a fa) (hb : SE B X bb (.BoolOp .Or (b :: rest) pos) fb) : SE B X bb (.BoolOp .Or (a :: b :: rest) pos) (fun ρ => bnd (fa ρ) fun x => bnd (bl! x) fun k => if k then ret (.bl true) else fb ρ) := by
  refine ⟨PE_imp (pe_or ha.pe hb.pe) fun σ H Q ⟨Λ, G, H0, ρ, S, sr, er, h⟩ => ⟨Λ, G, H0, ρ, S, sr, er, WP_imp (WP_bnd h) fun x S1 Λ1 G1 H1 _ t1 s1 h1 v rv => ?_⟩, rfl⟩
  cases x with
  | bl k =>
    refine ⟨k, rv.b.bl, ?_⟩
    have h2 := WP_ret (WP_bnd h1) _ _ _ .refl s1
    cases k with
    | false => exact ⟨Λ1, G1, H0, ρ, S1, s1, er.step t1, h2⟩
    | true => exact WP_ret h2 _ _ _ .refl s1 _ (by cases bb <;> simp only [RX, Rep, RepB, Bool.false_eq_true, if_false, if_true, true_or])
  | _ => exact (WP_stuck (WP_bnd h1)).elim
theorem snd_one {op : BoolOp} (ha : SE B X ba a fa) : SE B X ba (.BoolOp op [a] pos) fa := ⟨pe_one ha.pe, rfl⟩
theorem tru_rep {Λ : List Addr} {G H : Hp} {x : PV} {v : V} {k : Bool} (s : Sub G H) (r : RepB B.L Λ G H x v) (e : truP x = some k) : TruV B.L.K v H k := by
  cases x with
  | non => cases e; rw [r.non]; rfl
  | bl b => cases e; rw [r.bl]; rfl
  | int i => cases e; rw [r.int]; rfl
  | str x =>
    simp only [truP] at e
    split at e
    · rename_i h
      cases e
      rw [r.str]
      exact ⟨by rw [← line_eq]; exact h, rfl⟩
    · cases e
  | lst xs =>
    cases e
    obtain ⟨a, vs, rfl, h1, t⟩ := r.lst s
    refine .inl ⟨vs, SqL.of h1, ?_⟩
    have l := t.len
    cases xs <;> cases vs <;> simp at l <;> rfl
  | tup xs =>
    cases e
    obtain ⟨a, vs, rfl, h1, t⟩ := r.tup s
    refine .inr (.inl ⟨vs, h1, ?_⟩)
    have l := t.len
    cases xs <;> cases vs <;> simp at l <;> rfl
  | ins _ _ _ => cases e
  | loc _ => cases e
  | scr _ => cases e
theorem snd_not (ok : XOk B n N sc W X) (ha : SE B X ba a fa) : SE B X false (.UnaryOp .Not a pos) (fun ρ => bnd (fa ρ) fun x => bnd (opt (truP x)) fun k => ret (.bl (!k))) := by
  refine ⟨PE_imp (pe_notT ha.pe) fun σ H Q ⟨Λ, G, H0, ρ, S, sr, er, h⟩ => ⟨Λ, G, H0, ρ, S, sr, er, WP_imp (WP_bnd h) fun x S1 Λ1 G1 H1 _ t1 s1 h1 v rv => ?_⟩, rfl⟩
  obtain ⟨k, e, h2⟩ := WP_opt (WP_bnd h1)
  refine ⟨k, by rw [ok.K]; exact tru_rep s1.sub rv.b e, ?_⟩
  exact WP_ret (h2 _ _ _ .refl s1) _ _ _ .refl s1 _ (by simp only [RX, Rep, Bool.false_eq_true, if_false])
theorem snd_ite {ft : Env → M Bool} {b1 : Bool} (hc : PT X c (tT B X ft)) (ha : SE B X b1 a fa) (hb : SE B X b1 b fb) : SE B X b1 (.IfExp c a b pos) (fun ρ => bnd (ft ρ) fun k => if k then fa ρ else fb ρ) := by
  refine ⟨PE_imp (pe_ifExp hc ha.pe hb.pe) fun σ H Q ⟨Λ, G, H0, ρ, S, sr, er, h⟩ => ⟨Λ, G, H0, ρ, S, sr, er, WP_imp (WP_bnd h) fun k S1 Λ1 G1 H1 _ t1 s1 h1 => ?_⟩, rfl⟩
  cases k with
  | true => exact ⟨Λ1, G1, H0, ρ, S1, s1, er.step t1, h1⟩
  | false => exact ⟨Λ1, G1, H0, ρ, S1, s1, er.step t1, h1⟩

/-! ### comparisons -/
theorem isNon_rep {L : Lk} {Λ : List Addr} {G H : Hp} {x : PV} {v : V} (r : RepB L Λ G H x v) : decide (v = .non) = isNon x := by
  rcases r with r | ⟨xs, a, vs, rfl, rfl, _⟩ | ⟨cc, ns, xs, a, dx, vs, rfl, rfl, _⟩
  · cases x <;> simp only [Rep] at r
    · subst r; rfl
    · subst r; rfl
    · subst r; rfl
    · subst r; rfl
    · obtain ⟨_, _, rfl, _⟩ := r; rfl
    · obtain ⟨_, _, rfl, _⟩ := r; rfl
    · obtain ⟨_, _, _, rfl, _⟩ := r; rfl
    · obtain ⟨_, _, rfl⟩ := r; rfl
    · obtain ⟨_, rfl, _⟩ := r; rfl
  · rfl
  · rfl
theorem snd_isn {k : Nat} {p2 : Pos} (ha : SE B X ba a fa) : SE B X false (.Compare a [.Is] [.Constant .none k p2] pos) (fun ρ => bnd (fa ρ) fun x => ret (.bl (isNon x))) := by
  refine ⟨PE_imp (pe_cmp (pc_isN ha.pe) (mark_no rfl)) fun σ H Q ⟨Λ, G, H0, ρ, S, sr, er, h⟩ => ⟨Λ, G, H0, ρ, S, sr, er, WP_imp (WP_bnd h) fun x S1 Λ1 G1 H1 _ t1 s1 h1 v rv => ?_⟩, rfl⟩
  dsimp only
  rw [isNon_rep rv.b]
  exact WP_ret h1 _ _ _ .refl s1 _ (by simp only [RX, Rep, Bool.false_eq_true, if_false])
theorem snd_notn {k : Nat} {p2 : Pos} (ha : SE B X ba a fa) : SE B X false (.Compare a [.IsNot] [.Constant .none k p2] pos) (fun ρ => bnd (fa ρ) fun x => ret (.bl (!isNon x))) := by
  refine ⟨PE_imp (pe_cmp (pc_notN ha.pe) (mark_no rfl)) fun σ H Q ⟨Λ, G, H0, ρ, S, sr, er, h⟩ => ⟨Λ, G, H0, ρ, S, sr, er, WP_imp (WP_bnd h) fun x S1 Λ1 G1 H1 _ t1 s1 h1 v rv => ?_⟩, rfl⟩
  dsimp only
  rw [isNon_rep rv.b]
  exact WP_ret h1 _ _ _ .refl s1 _ (by simp only [RX, Rep, Bool.false_eq_true, if_false])
theorem snd_cmp (ok : XOk B n N sc W X) {o : Cop} (ho : o ≠ .isn ∧ o ≠ .notn) (ha : SE B X ba a fa) (hb : SE B X bb b fb) :
    SE B X false (.Compare a [copOf o] [b] pos) (fun ρ => bnd (fa ρ) fun x => bnd (fb ρ) fun y => bnd (opt (cmpP o x y)) fun k => ret (.bl k)) := by
  refine ⟨PE_imp (pe_cmpR (op_cmp ok.K ok.room.units o ho) ha.pe hb.pe (mark_no hb.gd)) fun σ H Q ⟨Λ, G, H0, ρ, S, sr, er, h⟩ => ⟨Λ, G, H0, ρ, S, sr, er, WP_imp (WP_bnd h) fun x S1 Λ1 G1 H1 _ t1 s1 h1 v rv =>
    ⟨Λ1, G1, H0, ρ, S1, s1, er.step t1, WP_imp (WP_bnd h1) fun y S2 Λ2 G2 H2 _ t2 s2 h2 w rw => ?_⟩⟩, rfl⟩
  obtain ⟨k, e, h3⟩ := WP_opt (WP_bnd h2)
  exact ⟨Λ2, G2, S2, x, y, .bl k, s2, rv.b.step t2, rw.b, by dsimp only; rw [e]; rfl, fun v' Λ' G' H' t s r => WP_ret (h3 _ _ _ .refl s2) Λ' G' H' t s v' r⟩
theorem pt_cmpS (ok : XOk B n N sc W X) {o : Cop} (ho : o ≠ .isn ∧ o ≠ .notn) (ha : SE B X ba a fa) (hb : SE B X bb b fb) :
    PT X (.Compare a [copOf o] [b] pos) (tT B X fun ρ => bnd (bnd (fa ρ) fun x => bnd (fb ρ) fun y => bnd (opt (cmpP o x y)) fun k => ret (.bl k)) fun x => opt (truP x)) := by
  refine PT_imp (pt_cmpR (op_cmp ok.K ok.room.units o ho) ha.pe hb.pe (mark_no hb.gd)) fun σ H Q ⟨Λ, G, H0, ρ, S, sr, er, h⟩ => ⟨Λ, G, H0, ρ, S, sr, er, WP_imp (WP_bnd (WP_bnd h)) fun x S1 Λ1 G1 H1 _ t1 s1 h1 v rv =>
    ⟨Λ1, G1, H0, ρ, S1, s1, er.step t1, WP_imp (WP_bnd h1) fun y S2 Λ2 G2 H2 _ t2 s2 h2 w rw => ?_⟩⟩
  obtain ⟨k, e, h3⟩ := WP_opt (WP_bnd h2)
  refine ⟨Λ2, G2, S2, x, y, .bl k, s2, rv.b.step t2, rw.b, by dsimp only; rw [e]; rfl, fun v' Λ' G' H' t s r => ?_⟩
  simp only [Rep] at r
  refine ⟨k, r, ?_⟩
  obtain ⟨k', e', h4⟩ := WP_opt (WP_ret (h3 _ _ _ .refl s2) Λ' G' H' t s)
  cases e'
  exact h4 _ _ _ .refl s
theorem pt_isS {k : Nat} {p2 : Pos} (ha : SE B X ba a fa) : PT X (.Compare a [.Is] [.Constant .none k p2] pos) (tT B X fun ρ => bnd (bnd (fa ρ) fun x => ret (.bl (isNon x))) fun x => opt (truP x)) := by
  refine PT_imp (pt_cmp (pc_isN ha.pe) (mark_no rfl)) fun σ H Q ⟨Λ, G, H0, ρ, S, sr, er, h⟩ => ⟨Λ, G, H0, ρ, S, sr, er, WP_imp (WP_bnd (WP_bnd h)) fun x S1 Λ1 G1 H1 _ t1 s1 h1 v rv => ?_⟩
  dsimp only
  rw [isNon_rep rv.b]
  obtain ⟨k', e', h4⟩ := WP_opt (WP_ret h1 _ _ _ .refl s1)
  cases e'
  exact ⟨_, rfl, h4 _ _ _ .refl s1⟩
theorem pt_notS {k : Nat} {p2 : Pos} (ha : SE B X ba a fa) : PT X (.Compare a [.IsNot] [.Constant .none k p2] pos) (tT B X fun ρ => bnd (bnd (fa ρ) fun x => ret (.bl (!isNon x))) fun x => opt (truP x)) := by
  refine PT_imp (pt_cmp (pc_notN ha.pe) (mark_no rfl)) fun σ H Q ⟨Λ, G, H0, ρ, S, sr, er, h⟩ => ⟨Λ, G, H0, ρ, S, sr, er, WP_imp (WP_bnd (WP_bnd h)) fun x S1 Λ1 G1 H1 _ t1 s1 h1 v rv => ?_⟩
  dsimp only
  rw [isNon_rep rv.b]
  obtain ⟨k', e', h4⟩ := WP_opt (WP_ret h1 _ _ _ .refl s1)
  cases e'
  exact ⟨_, rfl, h4 _ _ _ .refl s1⟩
def chnF (o p : Cop) (fa fb fc : Env → M PV) : Env → M PV := fun ρ => bnd (fa ρ) fun x => bnd (fb ρ) fun y => bnd (opt (cmpP o x y)) fun k =>
  if k then bnd (fc ρ) fun z => bnd (opt (cmpP p y z)) fun k => ret (.bl k) else ret (.bl false)
theorem snd_chn (ok : XOk B n N sc W X) {o p : Cop} (ho : o ≠ .isn ∧ o ≠ .notn) (hp : p ≠ .isn ∧ p ≠ .notn) (ha : SE B X ba a fa) (hb : SE B X bb b fb) (hc : SE B X bc c fc) :
    SE B X false (.Compare a [copOf o, copOf p] [b, c] pos) (chnF o p fa fb fc) := by
  have lm : lastMarks [copOf o, copOf p] [b, c] = false := by
    show behindInMarks (copOf p) c = false
    exact mark_no hc.gd
  refine ⟨PE_imp (pe_chain (op_cmp ok.K ok.room.units o ho) (op_cmp ok.K ok.room.units p hp) ha.pe hb.pe hc.pe lm) fun σ H Q ⟨Λ, G, H0, ρ, S, sr, er, h⟩ => ⟨Λ, G, H0, ρ, S, sr, er, WP_imp (WP_bnd h) fun x S1 Λ1 G1 H1 _ t1 s1 h1 v rv =>
    ⟨Λ1, G1, H0, ρ, S1, s1, er.step t1, WP_imp (WP_bnd h1) fun y S2 Λ2 G2 H2 _ t2 s2 h2 w rw => ?_⟩⟩, rfl⟩
  obtain ⟨k, e, h3⟩ := WP_opt (WP_bnd h2)
  refine ⟨Λ2, G2, S2, x, y, .bl k, s2, rv.b.step t2, rw.b, by dsimp only; rw [e]; rfl, fun v' Λ' G' H' t s r => ?_⟩
  simp only [Rep] at r
  have h3 := h3 Λ' G' H' t s
  refine ⟨k, r, ?_⟩
  cases k with
  | false =>
    rw [if_neg Bool.false_ne_true] at h3 ⊢
    exact WP_ret h3 _ _ _ .refl s _ (by simp only [RX, Rep, Bool.false_eq_true, if_false])
  | true =>
    rw [if_pos rfl] at h3 ⊢
    refine ⟨Λ', G', H0, ρ, S2, s, ((er.step t1).step t2).step t, WP_imp (WP_bnd h3) fun z S4 Λ4 G4 H4 _ t4 s4 h4 u ru => ?_⟩
    obtain ⟨k', e', h5⟩ := WP_opt (WP_bnd h4)
    exact ⟨Λ4, G4, S4, y, z, .bl k', s4, (rw.b.step t).step t4, ru.b, by dsimp only; rw [e']; rfl, fun v' Λ' G' H' t s r => WP_ret (h5 _ _ _ .refl s4) Λ' G' H' t s v' r⟩
theorem pt_chnS (ok : XOk B n N sc W X) {o p : Cop} (ho : o ≠ .isn ∧ o ≠ .notn) (hp : p ≠ .isn ∧ p ≠ .notn) (ha : SE B X ba a fa) (hb : SE B X bb b fb) (hc : SE B X bc c fc) :
    PT X (.Compare a [copOf o, copOf p] [b, c] pos) (tT B X fun ρ => bnd (chnF o p fa fb fc ρ) fun x => opt (truP x)) := by
  have lm : lastMarks [copOf o, copOf p] [b, c] = false := by
    show behindInMarks (copOf p) c = false
    exact mark_no hc.gd
  refine PT_imp (pt_chain (op_cmp ok.K ok.room.units o ho) (op_cmp ok.K ok.room.units p hp) ha.pe hb.pe hc.pe lm) fun σ H Q ⟨Λ, G, H0, ρ, S, sr, er, h⟩ => ⟨Λ, G, H0, ρ, S, sr, er, WP_imp (WP_bnd (WP_bnd h)) fun x S1 Λ1 G1 H1 _ t1 s1 h1 v rv =>
    ⟨Λ1, G1, H0, ρ, S1, s1, er.step t1, WP_imp (WP_bnd h1) fun y S2 Λ2 G2 H2 _ t2 s2 h2 w rw => ?_⟩⟩
  obtain ⟨k, e, h3⟩ := WP_opt (WP_bnd h2)
  refine ⟨Λ2, G2, S2, x, y, .bl k, s2, rv.b.step t2, rw.b, by dsimp only; rw [e]; rfl, fun v' Λ' G' H' t s r => ?_⟩
  simp only [Rep] at r
  have h3 := h3 Λ' G' H' t s
  refine ⟨k, r, ?_⟩
  cases k with
  | false =>
    rw [if_neg Bool.false_ne_true] at h3 ⊢
    obtain ⟨k', e', h4⟩ := WP_opt (WP_ret h3 _ _ _ .refl s)
    cases e'
    exact ⟨_, rfl, h4 _ _ _ .refl s⟩
  | true =>
    rw [if_pos rfl] at h3 ⊢
    refine ⟨Λ', G', H0, ρ, S2, s, ((er.step t1).step t2).step t, WP_imp (WP_bnd h3) fun z S4 Λ4 G4 H4 _ t4 s4 h4 u ru => ?_⟩
    obtain ⟨k', e', h5⟩ := WP_opt (WP_bnd h4)
    refine ⟨Λ4, G4, S4, y, z, .bl k', s4, (rw.b.step t).step t4, ru.b, by dsimp only; rw [e']; rfl, fun v' Λ' G' H' t s r => ?_⟩
    simp only [Rep] at r
    obtain ⟨k2, e2, h6⟩ := WP_opt (WP_ret (h5 _ _ _ .refl s4) Λ' G' H' t s)
    cases e2
    exact ⟨_, r, h6 _ _ _ .refl s⟩

/-! ### tests -/
theorem pt_plain (ok : XOk B n N sc W X) (h : plainT a = true) (ha : SE B X ba a fa) : PT X a (tT B X fun ρ => bnd (fa ρ) fun x => opt (truP x)) := by
  refine PT_imp (pt_truth ha.pe (true_plain h)) fun σ H Q ⟨Λ, G, H0, ρ, S, sr, er, h⟩ => ⟨Λ, G, H0, ρ, S, sr, er, WP_imp (WP_bnd h) fun x S1 Λ1 G1 H1 _ t1 s1 h1 v rv => ?_⟩
  obtain ⟨k, e, h2⟩ := WP_opt h1
  exact ⟨k, by rw [ok.K]; exact tru_rep s1.sub rv.b e, h2 _ _ _ .refl s1⟩
variable {ft fu : Env → M Bool}
theorem pt_notT (ha : PT X a (tT B X ft)) : PT X (.UnaryOp .Not a pos) (tT B X fun ρ => bnd (ft ρ) fun k => ret (!k)) :=
  PT_imp (pt_not ha) fun σ H Q ⟨Λ, G, H0, ρ, S, sr, er, h⟩ => ⟨Λ, G, H0, ρ, S, sr, er, WP_imp (WP_bnd h) fun x S1 Λ1 G1 H1 _ t1 s1 h1 => WP_ret h1 _ _ _ .refl s1⟩
theorem pw_andS {rest : List Expr} (ha : PT X a (tT B X ft)) (hb : PW X (.BoolOp .And (b :: rest) pos) (tT B X fu)) : PW X (.BoolOp .And (a :: b :: rest) pos) (tT B X fun ρ => bnd (ft ρ) fun k => if k then fu ρ else ret false) := by
  refine PW_imp (pw_and ha hb) fun σ H Q ⟨Λ, G, H0, ρ, S, sr, er, h⟩ => ⟨Λ, G, H0, ρ, S, sr, er, WP_imp (WP_bnd h) fun k S1 Λ1 G1 H1 _ t1 s1 h1 => ?_⟩
  cases k with
  | true =>
    rw [if_pos rfl]
    exact ⟨Λ1, G1, H0, ρ, S1, s1, er.step t1, h1⟩
  | false =>
    rw [if_neg Bool.false_ne_true]
    exact WP_ret h1 _ _ _ .refl s1
theorem pw_orS {rest : List Expr} (ha : PT X a (tT B X ft)) (hb : PW X (.BoolOp .Or (b :: rest) pos) (tT B X fu)) : PW X (.BoolOp .Or (a :: b :: rest) pos) (tT B X fun ρ => bnd (ft ρ) fun k => if k then ret true else fu ρ) := by
  refine PW_imp (pw_or ha hb) fun σ H Q ⟨Λ, G, H0, ρ, S, sr, er, h⟩ => ⟨Λ, G, H0, ρ, S, sr, er, WP_imp (WP_bnd h) fun k S1 Λ1 G1 H1 _ t1 s1 h1 => ?_⟩
  cases k with
  | false =>
    rw [if_neg Bool.false_ne_true]
    exact ⟨Λ1, G1, H0, ρ, S1, s1, er.step t1, h1⟩
  | true =>
    rw [if_pos rfl]
    exact WP_ret h1 _ _ _ .refl s1
end
end PF

set_option linter.all false
set_option maxRecDepth 100000
namespace PF
open PySem PySem.Spec PyProof.Rows L2

theorem WP_imp' {B : Env1} {X : Cx} {σ : L2.St} {Λ : List Addr} {G H : Hp} {S : Sto} {α : Type} {m : M α} {K K' : KK α} (h : WP B X σ Λ G H m S K)
    (k : ∀ a S', m S = .ok (a, S') → (∀ Λ' G' H', Stp Λ G H Λ' G' H' → SR B.L Λ' G' H' S' → K a S' Λ' G' H') → ∀ Λ' G' H', Stp Λ G H Λ' G' H' → SR B.L Λ' G' H' S' → K' a S' Λ' G' H') : WP B X σ Λ G H m S K' := by
  unfold WP at *
  cases q : m S with
  | stk => rw [q] at h; exact h
  | exc c fs S' => rw [q] at h; exact h
  | ok p => rw [q] at h; exact k _ _ q h

section
variable {B : Env1} {X : Cx} {n : Nat} {N W : List Str} {sc : Scope} {pos : Pos} {a b c : Expr} {ba bb bc : Bool} {fa fb fc : Env → M PV} {es : List Expr} {fs : Env → M (List PV)}

/-! ### arguments, displays -/
theorem snd_nil : SA B X [] (fun _ => ret []) := ⟨PA_imp pa_nil fun σ H Q ⟨Λ, G, H0, ρ, S, sr, er, h⟩ => WP_ret h Λ G H .refl sr [] repL_nil, rfl⟩
theorem snd_cons (ha : SE B X false a fa) (hs : SA B X es fs) : SA B X (a :: es) (fun ρ => bnd (fa ρ) fun x => bnd (fs ρ) fun xs => ret (x :: xs)) :=
  ⟨PA_imp (pa_cons ha.pe hs.pa (star_cons ha.gd)) fun σ H Q ⟨Λ, G, H0, ρ, S, sr, er, h⟩ => ⟨Λ, G, H0, ρ, S, sr, er, WP_imp (WP_bnd h) fun x S1 Λ1 G1 H1 _ t1 s1 h1 v rv =>
    ⟨Λ1, G1, H0, ρ, S1, s1, er.step t1, WP_imp (WP_bnd h1) fun xs S2 Λ2 G2 H2 _ t2 s2 h2 vs rvs => WP_ret h2 Λ2 G2 H2 .refl s2 (v :: vs) (repL_cons (Rep.mono t2.g t2.pre x v rv.s) rvs)⟩⟩,
    by rw [List.all_cons, ha.gd, hs.gd]; rfl⟩
theorem snd_tup {k : Nat} (hs : SA B X es fs) : SE B X false (.Tuple es k pos) (fun ρ => bnd (fs ρ) fun xs => if xs.length ≤ line then ret (.tup xs) else stuck) := by
  refine ⟨PE_imp (pe_tup hs.pa) fun σ H Q ⟨Λ, G, H0, ρ, S, sr, er, h⟩ => ⟨Λ, G, H0, ρ, S, sr, er, WP_imp (WP_bnd h) fun xs S1 Λ1 G1 H1 _ t1 s1 h1 vs rvs => ?_⟩, rfl⟩
  split at h1
  · rename_i hl
    refine ⟨by rw [← rvs.len, ← line_eq]; exact hl, fun p hp => ?_⟩
    exact WP_ret h1 _ _ _ (Stp.laid hp s1.sub) (s1.laid hp) _ (rep_tup rvs (s1.sub.none hp))
  · exact (WP_stuck h1).elim

/-- a list of one's own: new, not frozen -/
def tF (B : Env1) (X : Cx) (f : Env → M PV) : TE := fun σ H Q => ∃ Λ G H0 ρ S, SR B.L Λ G H S ∧ ER B.L Λ G H H0 σ ρ ∧ WP B X σ Λ G H (f ρ) S fun x _ Λ' G' H' => ∀ xs a vs, x = .lst xs → H a = none → H' a = some (.lst vs) → RepL B.L Λ' G' xs vs → G' a = none → a ∉ Λ' → Q (.ref a) H'
theorem tF_E {f : Env → M PV} (hf : ∀ ρ S x S', f ρ S = .ok (x, S') → ∃ xs, x = .lst xs) {σ : L2.St} {H : Hp} {Q : VK} (h : tE B X false f σ H Q) : tF B X f σ H Q := by
  obtain ⟨Λ, G, H0, ρ, S, sr, er, h⟩ := h
  refine ⟨Λ, G, H0, ρ, S, sr, er, WP_imp' h fun x S' e k Λ' G' H' t s xs p vs ex hn hp r hg hl => ?_⟩
  subst ex
  refine k Λ' (upd G' p (.lst vs)) H' ⟨t.g.trans (Sub.upd hg), t.keep, t.th, fun b o q => ?_, t.ext⟩ (s.frz hp hg hl) (.ref p) (rep_lst r hg)
  by_cases z : b = p
  · rw [z]; exact .inr hn
  · rw [upd_ne z] at q; exact t.fr b o q
structure SF (B : Env1) (X : Cx) (e : Expr) (f : Env → M PV) : Prop where
  pe : PE X e (tF B X f)
  lst : ∀ ρ S x S', f ρ S = .ok (x, S') → ∃ xs, x = .lst xs
  gd : gd e = true
theorem SF.se (h : SF B X a fa) : SE B X false a fa := ⟨PE_imp h.pe fun _ _ _ q => tF_E h.lst q, h.gd⟩
theorem bnd_ok {α β : Type} {m : M α} {f : α → M β} {S S' : Sto} {y : β} (h : bnd m f S = .ok (y, S')) : ∃ x S1, m S = .ok (x, S1) ∧ f x S1 = .ok (y, S') := by
  unfold bnd at h
  cases q : m S with
  | stk => rw [q] at h; cases h
  | exc c fs S' => rw [q] at h; cases h
  | ok p => rw [q] at h; exact ⟨p.1, p.2, rfl, h⟩
theorem opt_ok {α : Type} {o : Option α} {S S' : Sto} {y : α} (h : opt o S = .ok (y, S')) : o = some y ∧ S' = S := by
  cases o with
  | none => cases h
  | some a => cases h; exact ⟨rfl, rfl⟩
theorem snd_lst (hs : SA B X es fs) : SF B X (.List es pos) (fun ρ => bnd (fs ρ) fun xs => if xs.length ≤ line then ret (.lst xs) else stuck) := by
  refine ⟨PE_imp (pe_lst hs.pa) fun σ H Q ⟨Λ, G, H0, ρ, S, sr, er, h⟩ => ⟨Λ, G, H0, ρ, S, sr, er, WP_imp (WP_bnd h) fun xs S1 Λ1 G1 H1 _ t1 s1 h1 vs rvs => ?_⟩, fun ρ S x S' h => ?_, rfl⟩
  · split at h1
    · rename_i hl
      refine ⟨by rw [← rvs.len, ← line_eq]; exact hl, fun p hp => ?_⟩
      exact WP_ret h1 _ _ _ (Stp.laidO hp) (s1.laidO hp) xs p vs rfl (t1.th p hp) upd_same rvs (s1.sub.none hp) fun z => s1.ne hp z rfl
    · exact (WP_stuck h1).elim
  · obtain ⟨xs, S1, h1, h2⟩ := bnd_ok h
    split at h2
    · cases h2; exact ⟨_, rfl⟩
    · cases h2

/-! ### items, slices -/
theorem at_rep {L : Lk} {Λ : List Addr} {G : Hp} {xs : List PV} {vs : List V} {i : Int} {x : PV} (r : RepL L Λ G xs vs) (h : atI xs i = some x) : ∃ v, atI vs i = some v ∧ Rep L Λ G x v := by
  unfold atI at *
  rw [← r.len]
  obtain ⟨j, e1, e2⟩ := Option.bind_eq_some_iff.mp h
  obtain ⟨v, e3, q⟩ := r.get e2
  exact ⟨v, by rw [e1, Option.bind_some]; exact e3, q⟩
def derP (S : Sto) : PV → Option PV
  | .loc k => (S[k]?).map .lst
  | v => some v
theorem der_eq (x : PV) (S : Sto) : der x S = match derP S x with
    | some y => .ok (y, S)
    | none => .stk := by
  cases x with
  | loc k =>
    simp only [der, derP]
    cases S[k]? <;> rfl
  | _ => rfl
def rIdx (B : Env1) : R2 := fun x y H Q => ∃ Λ G S a b d z, SR B.L Λ G H S ∧ RepB B.L Λ G H a x ∧ RepB B.L Λ G H b y ∧ derP S a = some d ∧ idxP d b = some z ∧ OK1 B Λ G H S z Q
theorem ix_any (hk : X.K = B.L.K) : IxR X (rIdx B) := by
  rintro value slice pins s σ H x y v u Q I rx ry ⟨Λ, G, S, a, b, d, z, sr, ra, rb, e1, e2, k⟩ hs
  refine ix_seq value slice pins s σ H x y v u Q I rx ry ?_ hs
  unfold idxP at e2
  split at e2
  · rename_i xs i
    have key : ∃ p vs, x = .ref p ∧ H p = some (.lst vs) ∧ RepL B.L Λ G xs vs := by
      cases a with
      | loc n =>
        obtain ⟨ys, q1, q2⟩ := Option.map_eq_some_iff.mp e1
        cases q2
        obtain ⟨p, h1, h2⟩ := ra.loc
        obtain ⟨vs, h3, h4⟩ := sr.at_ n p xs h1 q1
        exact ⟨p, vs, h2, h3, h4⟩
      | lst ys =>
        cases e1
        exact ra.lst sr.sub
      | _ => cases e1
    obtain ⟨p, vs, e, h1, r⟩ := key
    obtain ⟨w, h2, r2⟩ := at_rep r e2
    exact .inl ⟨p, vs, i, w, e, rb.int, SqL.of h1, h2, k.same sr r2⟩
  · rename_i xs i
    cases a <;> first | (cases e1; done) | skip
    · cases e1
      obtain ⟨p, vs, e, h1, r⟩ := ra.tup sr.sub
      obtain ⟨w, h2, r2⟩ := at_rep r e2
      exact .inr (.inl ⟨p, vs, i, w, e, rb.int, by rw [hk]; exact h1, h2, k.same sr r2⟩)
    · obtain ⟨ys, q1, q2⟩ := Option.map_eq_some_iff.mp e1
      cases q2
  · rename_i xs i
    cases a <;> first | (cases e1; done) | skip
    · cases e1
      split at e2
      · rename_i hl
        obtain ⟨c, q1, q2⟩ := Option.map_eq_some_iff.mp e2
        subst q2
        exact .inr (.inr ⟨xs, i, c, ra.str, rb.int, by rw [← line_eq]; exact hl, q1, k.same sr (by simp only [Rep])⟩)
      · cases e2
    · obtain ⟨ys, q1, q2⟩ := Option.map_eq_some_iff.mp e1
      cases q2
  · cases e2
theorem snd_idx (ok : XOk B n N sc W X) (ha : SE B X ba a fa) (hb : SE B X bb b fb) : SE B X false (.Subscript a b pos) (fun ρ => bnd (fa ρ) fun x => bnd (fb ρ) fun y => bnd (der x) fun x => opt (idxP x y)) := by
  refine ⟨PE_imp (pe_ix (ix_any ok.K) ha.pe hb.pe (plain_ix hb.gd)) fun σ H Q ⟨Λ, G, H0, ρ, S, sr, er, h⟩ => ⟨Λ, G, H0, ρ, S, sr, er, WP_imp (WP_bnd h) fun x S1 Λ1 G1 H1 _ t1 s1 h1 v rv =>
    ⟨Λ1, G1, H0, ρ, S1, s1, er.step t1, WP_imp (WP_bnd h1) fun y S2 Λ2 G2 H2 _ t2 s2 h2 w rw => ?_⟩⟩, rfl⟩
  have h3 := WP_bnd h2
  unfold WP at h3
  rw [der_eq] at h3
  cases q : derP S2 x with
  | none => rw [q] at h3; exact h3.elim
  | some d =>
    rw [q] at h3
    obtain ⟨z, e, h4⟩ := WP_opt (h3 _ _ _ .refl s2)
    exact ⟨Λ2, G2, S2, x, y, d, z, s2, rv.b.step t2, rw.b, q, e, fun v' Λ' G' H' t s r => h4 Λ' G' H' t s v' r⟩

def tOI (B : Env1) (X : Cx) (f : Env → M (Option Int)) : TO := fun σ H Q => ∃ Λ G H0 ρ S, SR B.L Λ G H S ∧ ER B.L Λ G H H0 σ ρ ∧ WP B X σ Λ G H (f ρ) S fun k _ _ _ H' => Q k H'
theorem PO_imp {e : Option Expr} {t t' : TO} (h : PO X e t) (k : ∀ σ H Q, t' σ H Q → t σ H Q) : PO X e t' := ⟨fun pins s σ H Q I q => h.run pins s σ H Q I (k σ H Q q)⟩
theorem snd_onone : PO X none (tOI B X fun _ => ret none) := PO_imp po_none fun σ H Q ⟨Λ, G, H0, ρ, S, sr, er, h⟩ => WP_ret h Λ G H .refl sr
theorem snd_osome (ha : SE B X ba a fa) : PO X (some a) (tOI B X fun ρ => bnd (fa ρ) fun x => bnd (opt (toI x)) fun i => ret (some i)) := by
  refine PO_imp (po_some ha.pe) fun σ H Q ⟨Λ, G, H0, ρ, S, sr, er, h⟩ => ⟨Λ, G, H0, ρ, S, sr, er, WP_imp (WP_bnd h) fun x S1 Λ1 G1 H1 _ t1 s1 h1 v rv => ?_⟩
  obtain ⟨i, e, h2⟩ := WP_opt (WP_bnd h1)
  cases x with
  | int j =>
    cases e
    exact ⟨_, rv.b.int, WP_ret (h2 _ _ _ .refl s1) _ _ _ .refl s1⟩
  | _ => cases e
def rSlc (B : Env1) : V → Option Int → Option Int → Hp → VK → Prop := fun x lo hi H Q => ∃ Λ G S a z, SR B.L Λ G H S ∧ RepB B.L Λ G H a x ∧ slcP a lo hi = some z ∧ OK1 B Λ G H S z Q
theorem cut_rep {L : Lk} {Λ : List Addr} {G : Hp} {xs : List PV} {vs : List V} (r : RepL L Λ G xs vs) (lo hi : Option Int) : RepL L Λ G (cutP xs lo hi) (cutV vs lo hi) := by
  unfold cutP cutV
  rw [← r.len]
  exact (r.drop _).take _
theorem sl_any (hk : X.K = B.L.K) : L2.SlR X (rSlc B) := by
  rintro pins s σ H x v vl vu lo hi sl Q I rx hs pl pu ⟨Λ, G, S, a, z, sr, ra, e, k⟩
  cases a with
  | lst xs =>
    cases e
    obtain ⟨p, vs, e, h1, r⟩ := ra.lst sr.sub
    exact sl_list pins s σ H x v vl vu lo hi sl Q I rx hs pl pu ⟨p, vs, e, SqL.of h1, fun c hc => k.new sr hc (rep_lst (cut_rep r lo hi) (sr.sub.none hc))⟩
  | scr ns =>
    cases e
    obtain ⟨p, e, h1⟩ := ra.scr sr.sub
    exact sl_list pins s σ H x v vl vu lo hi sl Q I rx hs pl pu ⟨p, _, e, by rw [hk]; exact h1, fun c hc => k.new sr hc (rep_lst (cut_rep (repL_map (fun a => by simp only [Rep]) ns) lo hi) (sr.sub.none hc))⟩
  | tup xs =>
    cases e
    obtain ⟨p, vs, e, h1, r⟩ := ra.tup sr.sub
    refine sl_tupA pins s σ H x v vl vu lo hi sl Q I rx hs pl pu ⟨p, vs, e, by rw [hk]; exact h1, fun hw => ?_, fun hw c hc => ?_⟩
    · have e2 : cutP xs lo hi = xs := by
        unfold cutP
        rw [← r.len] at hw
        rw [hw.1, hw.2]
        simp
      rw [e2] at k
      rcases ra with ra | ⟨_, _, _, e3, _⟩ | ⟨_, _, _, _, _, _, e3, _⟩
      · rw [← e]; exact k.same sr ra
      · cases e3
      · cases e3
    · exact k.new sr hc (rep_tup (cut_rep r lo hi) (sr.sub.none hc))
  | _ => cases e
theorem snd_slc (ok : XOk B n N sc W X) {lo hi : Option Expr} {fl fh : Env → M (Option Int)} {p2 : Pos} (ha : SE B X ba a fa) (hl : PO X lo (tOI B X fl)) (hh : PO X hi (tOI B X fh)) :
    SE B X false (.Subscript a (.Slice lo hi none p2) pos) (fun ρ => bnd (fa ρ) fun x => bnd (fl ρ) fun l => bnd (fh ρ) fun h => opt (slcP x l h)) := by
  refine ⟨PE_imp (pe_slice (sl_any ok.K) ha.pe hl hh) fun σ H Q ⟨Λ, G, H0, ρ, S, sr, er, h⟩ => ⟨Λ, G, H0, ρ, S, sr, er, WP_imp (WP_bnd h) fun x S1 Λ1 G1 H1 _ t1 s1 h1 v rv =>
    ⟨Λ1, G1, H0, ρ, S1, s1, er.step t1, WP_imp (WP_bnd h1) fun l S2 Λ2 G2 H2 _ t2 s2 h2 =>
    ⟨Λ2, G2, H0, ρ, S2, s2, (er.step t1).step t2, WP_imp (WP_bnd h2) fun u S3 Λ3 G3 H3 _ t3 s3 h3 => ?_⟩⟩⟩, rfl⟩
  obtain ⟨z, e, h4⟩ := WP_opt h3
  exact ⟨Λ3, G3, S3, x, z, s3, (rv.b.step t2).step t3, e, fun v' Λ' G' H' t s r => h4 Λ' G' H' t s v' r⟩

/-! ### names behind a dot -/
theorem fld_rep {L : Lk} {Λ : List Addr} {G : Hp} {f : Str} {x : PV} : ∀ {ns : List Str} {xs : List PV} {vs : List V}, RepL L Λ G xs vs → fldP ns xs f = some x → ∃ v, (ns.zip vs).lookup f = some v ∧ Rep L Λ G x v
  | [], xs, vs, r, h => by simp [fldP] at h
  | m :: ns, [], vs, r, h => by simp [fldP] at h
  | m :: ns, y :: xs, vs, r, h => by
    simp only [RepL] at r
    obtain ⟨v, w, rfl, a, t⟩ := r
    unfold fldP at h
    rw [List.zip_cons_cons, List.lookup_cons] at h
    rw [List.zip_cons_cons, List.lookup_cons]
    cases q : f == m with
    | true =>
      rw [q] at h
      cases h
      exact ⟨v, rfl, a⟩
    | false =>
      rw [q] at h
      exact fld_rep t h
end
end PF

set_option linter.all false
set_option maxRecDepth 100000
namespace PF
open PySem PySem.Spec PyProof.Rows L2

/-! ### a def's promise, no guard under way -/
structure FnG (P : Program) (w : World) (K : PySem.W.Frag) (mg : Str → Option Value) (base : Heap) (r : Nat) (a : Addr) (fd : FuncData) (ps : List Str) (sp : Sp) : Prop where
  ln : ∀ vs H Q E, sp vs H Q E → vs.length = ps.length
  go : ∀ (A : Around) (outer : List PySem.Env) (s : Shared) (H : Hp) (args : Args) (us : List Value) (vs : List V) (Q : VK) (E : XK), A.guards = some [] → Room r A → Env0 P w K mg base A outer s H → BindsTo s fd args (ps.zip us) → Vals vs us →
    sp vs H Q E → codeAny (model P w) A (.call (.ref a) args) (CR (CX P w) outer P w H s Q E) s
theorem FnG.le {P : Program} {w : World} {K : PySem.W.Frag} {mg : Str → Option Value} {base : Heap} {r r' : Nat} {a : Addr} {fd : FuncData} {ps : List Str} {sp : Sp} (F : FnG P w K mg base r a fd ps sp) (h : r ≤ r') : FnG P w K mg base r' a fd ps sp :=
  ⟨F.ln, fun A outer s H args us vs Q E hg hr => F.go A outer s H args us vs Q E hg (hr.mono h)⟩

theorem under_make {A : Around} {C : Addr} {us : List Value} {kw : List (Str × Value)} (h : A.guards = some []) : (A.under (.builtin "type.__call__" ⟨.ref C :: us, kw⟩)).guards = some [] := by
  simp [Around.under, Code.guards, Code.isGuard, guardIds, pushGuards, h]

/-- a def of the text keeps a promise that its body keeps -/
theorem fnG_of {P : Program} {w : World} {K : PySem.W.Frag} {mg : Str → Option Value} {base : Heap} {r : Nat} {a : Addr} {fd : FuncData} {name qual : Str} {params : Arguments} {body : List Stmt} {scope : Scope} {dvs : List V} {kws : List (Str × V)}
    {N ps : List Str} {sp : Sp} (F : FunD K name qual params body scope dvs kws a fd) (S : FnScope N ps scope) (ln : ∀ vs H Q E, sp vs H Q E → vs.length = ps.length)
    (hb : ∀ (cdv : Value) (A : Around) (outer : List PySem.Env) (s : Shared) (H : Hp) (vs : List V) (Q : VK) (E : XK), A.guards = some [] → Room r (A.deeper (envOfC qual scope s.heap.objs.size a cdv)) → sp vs H Q E →
      ∃ t, PSs (cxOf (CX P w) P w K mg base N qual scope a cdv A outer s H E) body t ∧ t { nx := fun _ H' => Q .non H', rt := Q } (start N vs) H) : FnG P w K mg base (r + 1) a fd ps sp := by
  obtain ⟨oc, od, dV, kV, doc, pm, an, cdv, ct, osl, rfl, lk, hcd, _, _⟩ := F.ex
  refine ⟨ln, fun A outer s H args us vs Q E hg hr e0 hbd rv hsp => ?_⟩
  have kin : K.In s.heap := e0.mod.kin.keeps fun b o e => (e0.bs b o e).1
  have nl : s.heap.NoLimit := e0.mod.nolimit.keeps fun b o e => (e0.bs b o e).1
  have kinds : ∀ y ∈ ps.zip us, scope.names.lookup y.1 = some .local ∨ (scope.names.lookup y.1 = some .cell ∧ ((cellsFrom (s.heap.objs.size + 1) scope.names []).lookup y.1).isSome = true) := by
    rintro ⟨n, v⟩ hy
    exact (S.par n (List.of_mem_zip hy).1).imp id fun q => ⟨q, PySem.W.cellsFrom_some _ _ _ (.inl q)⟩
  refine codeAny_call_function hr.depth (kin _ _ lk) rfl S.co S.gen rfl (PySem.W.codeRec_of kin hcd) (hbd _ _ _ _ (wpAny_newFunctionEnv_cells S.kind kinds fun env he s1 x => ?_))
  subst he
  obtain ⟨t, ht, hq⟩ := hb cdv A outer s H vs Q E hg (hr.deeper _) hsp
  refine ⟨nl.keeps x.toInCall.keep, codeAny_func (wpAny_mono (ht.run [] s1 (start N vs) H _ (inv_start S hr.hd e0 (ln _ _ _ _ hsp) rv x) hq) (fun fl s' hs => ?_) fun _ _ z => z)⟩
  have done : ∀ {σ' : L2.St} {H' : Hp} {v : V} {u : Value}, Inv (cxOf (CX P w) P w K mg base N qual scope a cdv A outer s H E) [] σ' H' s' → RelV v u → Q v H' → CE outer P w H s Q u s' :=
    fun {σ' H' v u} J z q => ⟨v, H', J.os, J.bare, J.base, J.hok, z, q⟩
  cases fl with
  | next => obtain ⟨_, H', J, q⟩ := hs; exact done (v := V.non) (u := Value.none) J rfl q
  | ret u => obtain ⟨v, _, H', J, z, q⟩ := hs; exact done J z q
  | brk => obtain ⟨_, _, _, q⟩ := hs; exact q.elim
  | cont => obtain ⟨_, _, _, q⟩ := hs; exact q.elim

section
variable {X : Cx} {r : Nat} {a C : Addr} {fd : FuncData} {ps ks : List Str} {sp : Sp} {x m : Str} {p pos apos : Pos} {e o : Expr} {es : List Expr} {ta : TE} {t tk : TA}
/-- the promise is used -/
theorem use_fn {pins : List (Addr × Obj)} {σ : L2.St} {H : Hp} {s : Shared} {Q : VK} {us zs : List Value} {kw : List (Str × Value)} {vs : List V} {E : XK} (F : FnG X.prog X.w X.K X.mg X.base r a fd ps sp) (hg : X.A.guards = some []) (hr : Room r X.A)
    (hb : BindsTo s fd ⟨us, kw⟩ (ps.zip zs)) (hx : PassesAt (CX X.prog X.w) X σ E) (I : Inv X pins σ H s) (rv : Vals vs zs) (h : sp vs H Q E) : wpAny (model X.prog X.w) X.A (call (.ref a) us kw) (EP X pins σ Q) X.xe s :=
  wpAny_call (codeAny_mono (F.go X.A X.stack s H ⟨us, kw⟩ zs vs Q E hg hr I.env0 hb rv h) fun res s' hq => match res, hq with
    | .error e, hq => hx pins H s e s' I hq
    | .ok (.ret u), hq => I.after hq
    | .ok .next, hq => hq.elim
    | .ok .brk, hq => hq.elim
    | .ok .cont, hq => hq.elim)
/-- an instance is made -/
theorem use_make {pins : List (Addr × Obj)} {σ : L2.St} {H : Hp} {s : Shared} {Q : VK} {us : List Value} {zs : Value → List Value} {kw : List (Str × Value)} {vs : List V} {E : XK} (M : Mk X.K C a) (F : FnG X.prog X.w X.K X.mg X.base r a fd ps sp) (hg : X.A.guards = some []) (hr : Room (r + 1) X.A)
    (hb : ∀ (s : Shared) (y : Value), X.K.In s.heap → BindsTo s fd ⟨y :: us, kw⟩ (ps.zip (zs y))) (hx : PassesAt (CX X.prog X.w) X σ E) (I : Inv X pins σ H s) (rv : ∀ (y : V) (u : Value), RelV y u → Vals (y :: vs) (zs u))
    (h : ∀ y dx, H y = none → H dx = none → dx ≠ y → sp (.ref y :: vs) (upd (upd H dx (.own y)) y (.ins C dx [])) (fun v H2 => v = .non ∧ Q (.ref y) H2) E) : wpAny (model X.prog X.w) X.A (call (.ref C) us kw) (EP X pins σ Q) X.xe s := by
  have q0 := h (s.heap.objs.size + 1) s.heap.objs.size (I.hok.fresh (Nat.le_succ _)) (I.hok.fresh (Nat.le_refl _)) (Nat.ne_of_lt (Nat.lt_succ_self _))
  have J := Inv.made (C := C) I
  refine wpAny_call (make_map (f := a) I.kIn M.makes M.init (beq_iff_eq.mp M.fn) (codeAny_mono (F.go _ X.stack _ _ ⟨Value.ref (s.heap.objs.size + 1) :: us, kw⟩ (zs (Value.ref (s.heap.objs.size + 1))) (V.ref (s.heap.objs.size + 1) :: vs) _ E (under_make hg) (hr.make C us kw)
    (J.env0.make C us kw) (hb _ _ J.kIn) (rv _ _ rfl) q0) fun res s' hq => ?_))
  match res, hq with
  | .error e, hq => exact hx pins _ _ e s' J hq
  | .ok (.ret u), hq =>
    obtain ⟨v, H', J3, z, ev, q3⟩ := J.after hq
    subst ev
    exact ⟨z, V.ref (s.heap.objs.size + 1), H', J3, rfl, q3⟩
  | .ok .next, hq => exact hq.elim
  | .ok .brk, hq => exact hq.elim
  | .ok .cont, hq => exact hq.elim
end
end PF

set_option linter.all false
set_option maxRecDepth 100000
namespace PF
open PySem PySem.Spec PyProof.Rows L2

/-! ### written arguments -/
theorem stars_no {env : PySem.Env} {pos : Pos} : ∀ {es : List Expr}, es.all gd = true → (backTo pos (starEach es env)).any (·.1) = false
  | [], _ => rfl
  | e :: es, h => by
    rw [List.all_cons, Bool.and_eq_true] at h
    rw [star_cons h.1]
    show (false || (backTo pos (starEach es env)).any (·.1)) = false
    rw [stars_no h.2]; rfl
def kwN : List Keyword → Option (List Str)
  | [] => some []
  | ⟨some n, _, _⟩ :: r => (kwN r).map (n :: ·)
  | _ => none
theorem kw_all {env : PySem.Env} {pos : Pos} : ∀ {kws : List Keyword} {ks : List Str}, kwN kws = some ks → (backToKw pos (keywordEach kws env)).all (·.1.isSome) = true ∧ (backToKw pos (keywordEach kws env)).filterMap (·.1) = ks ∧ (backToKw pos (keywordEach kws env)).any (·.1.isNone) = false
  | [], ks, h => by cases h; exact ⟨rfl, rfl, rfl⟩
  | ⟨some n, v, p⟩ :: r, ks, h => by
    obtain ⟨l, h1, h2⟩ := Option.map_eq_some_iff.mp (show (kwN r).map (n :: ·) = some ks from h)
    obtain ⟨a, b, c⟩ := kw_all (env := env) (pos := pos) h1
    subst h2
    refine ⟨?_, ?_, ?_⟩
    · show (true && (backToKw pos (keywordEach r env)).all (·.1.isSome)) = true
      rw [a]; rfl
    · show n :: (backToKw pos (keywordEach r env)).filterMap (·.1) = _
      rw [b]
    · show (false || (backToKw pos (keywordEach r env)).any (·.1.isNone)) = false
      rw [c]; rfl
  | ⟨none, v, p⟩ :: r, ks, h => by cases h

/-- arguments; none at all are known to be none -/
structure SG (B : Env1) (X : Cx) (es : List Expr) (f : Env → M (List PV)) : Prop where
  sa : SA B X es f
  nil : es = [] → f = fun _ => ret []
  ln : ∀ ρ S xs S', f ρ S = .ok (xs, S') → xs.length = es.length
structure SK (B : Env1) (X : Cx) (kws : List Keyword) (ks : List Str) (f : Env → M (List PV)) : Prop where
  pk : PK X kws (tA B X f)
  nm : kwN kws = some ks
  nil : kws = [] → f = fun _ => ret []
  ln : ∀ ρ S xs S', f ρ S = .ok (xs, S') → xs.length = ks.length
section
variable {B : Env1} {X : Cx} {a : Expr} {fa : Env → M PV} {es : List Expr} {fs fk : Env → M (List PV)} {kws : List Keyword} {ks : List Str} {n : Str} {p pos : Pos}
theorem cons_ln {m : M PV} {g : M (List PV)} {k : Nat} (h : ∀ S xs S', g S = .ok (xs, S') → xs.length = k) {S S' : Sto} {xs : List PV} (e : bnd m (fun x => bnd g fun xs => ret (x :: xs)) S = .ok (xs, S')) : xs.length = k + 1 := by
  obtain ⟨y, S1, _, e⟩ := bnd_ok e
  obtain ⟨ys, S2, e2, e⟩ := bnd_ok e
  cases e
  rw [List.length_cons, h _ _ _ e2]
theorem sg_nil : SG B X [] (fun _ => ret []) := ⟨snd_nil, fun _ => rfl, fun _ _ _ _ h => by cases h; rfl⟩
theorem sg_cons (ha : SE B X false a fa) (hs : SG B X es fs) : SG B X (a :: es) (fun ρ => bnd (fa ρ) fun x => bnd (fs ρ) fun xs => ret (x :: xs)) := ⟨snd_cons ha hs.sa, (fun z => nomatch z), fun ρ _ _ _ h => cons_ln (hs.ln ρ) h⟩
theorem PK_imp {t t' : TA} (h : PK X kws t) (k : ∀ σ H Q, t' σ H Q → t σ H Q) : PK X kws t' := ⟨fun pos pins s σ H Q I q => h.run pos pins s σ H Q I (k σ H Q q)⟩
theorem sk_nil : SK B X [] [] (fun _ => ret []) := ⟨PK_imp pk_nil fun σ H Q ⟨Λ, G, H0, ρ, S, sr, er, h⟩ => WP_ret h Λ G H .refl sr [] repL_nil, rfl, fun _ => rfl, fun _ _ _ _ h => by cases h; rfl⟩
theorem sk_cons (ha : SE B X false a fa) (hs : SK B X kws ks fs) : SK B X (⟨some n, a, p⟩ :: kws) (n :: ks) (fun ρ => bnd (fa ρ) fun x => bnd (fs ρ) fun xs => ret (x :: xs)) :=
  ⟨PK_imp (pk_cons ha.pe hs.pk) fun σ H Q ⟨Λ, G, H0, ρ, S, sr, er, h⟩ => ⟨Λ, G, H0, ρ, S, sr, er, WP_imp (WP_bnd h) fun x S1 Λ1 G1 H1 _ t1 s1 h1 v rv =>
    ⟨Λ1, G1, H0, ρ, S1, s1, er.step t1, WP_imp (WP_bnd h1) fun xs S2 Λ2 G2 H2 _ t2 s2 h2 vs rvs => WP_ret h2 Λ2 G2 H2 .refl s2 (v :: vs) (repL_cons (Rep.mono t2.g t2.pre x v rv.s) rvs)⟩⟩,
    by show (kwN kws).map (n :: ·) = _; rw [hs.nm]; rfl, (fun z => nomatch z), fun ρ _ _ _ h => cons_ln (hs.ln ρ) h⟩

/-- the arguments, then the call -/
theorem go_call {u : Value} {first : List Value} {Rq : List V → List V → Hp → Prop} {Q : Value → Shared → Prop} {pins : List (Addr × Obj)} {s : Shared} {σ : L2.St} {H : Hp} (hk : PySem.W.keepIn X.K u = true) (ha : SG B X es fs) (hw : SK B X kws ks fk) (I : Inv X pins σ H s)
    (h : tA B X fs σ H fun vs H1 => tA B X fk σ H1 fun zs H2 => Rq vs zs H2)
    (fin : ∀ s2 us ws vs zs H2, Inv X pins σ H2 s2 → Vals vs us → Vals zs ws → Rq vs zs H2 → wpAny (model X.prog X.w) X.A (call u (first ++ us) (ks.zip ws)) Q X.xe s2) :
    wpAny (model X.prog X.w) X.A (callWith pos u first (backTo pos (starEach es X.env)) (backToKw pos (keywordEach kws X.env))) Q X.xe s := by
  obtain ⟨k1, k2, k3⟩ := kw_all (env := X.env) (pos := pos) hw.nm
  cases es with
  | nil =>
    rw [ha.nil rfl] at h
    obtain ⟨Λ, G, H0, ρ, S, sr, er, h⟩ := h
    have h := WP_ret h Λ G H .refl sr [] repL_nil
    cases kws with
    | nil =>
      have e := hw.nm
      cases e
      rw [hw.nil rfl] at h
      obtain ⟨Λ, G, H0, ρ, S, sr, er, h⟩ := h
      exact PySem.W.callWith_K0 I.kIn hk (fin s [] [] [] [] H I .nil .nil (WP_ret h Λ G H .refl sr [] repL_nil))
    | cons kw kws =>
      refine PySem.W.callWith_KW0 (h₀ := X.base) I.ok.mod.kin hk k1 (L2.thn (hw.pk.run pos pins s σ H _ I h) fun ws s2 ⟨zs, H2, I2, rz, q⟩ => ⟨I2.kIn, ?_⟩) (by rw [k3]; rfl)
      rw [k2]
      exact fin s2 [] ws [] zs H2 I2 .nil rz q
  | cons e es =>
    have g := ha.sa.gd
    rw [List.all_cons, Bool.and_eq_true] at g
    cases kws with
    | nil =>
      have e := hw.nm
      cases e
      refine PySem.W.callWith_K (h₀ := X.base) I.ok.mod.kin hk (L2.thn (ha.sa.pa.run pos pins s σ H _ I h) fun us s2 ⟨vs, H2, I2, rv, q⟩ => ⟨I2.kIn, ?_⟩) (star_cons g.1) (stars_no g.2)
      rw [hw.nil rfl] at q
      obtain ⟨Λ, G, H0, ρ, S, sr, er, q⟩ := q
      exact fin s2 us [] vs [] H2 I2 rv .nil (WP_ret q Λ G H2 .refl sr [] repL_nil)
    | cons kw kws =>
      refine PySem.W.callWith_KW (h₀ := X.base) I.ok.mod.kin hk k1 (L2.thn (ha.sa.pa.run pos pins s σ H _ I h) fun us s1 ⟨vs, H1, I1, rv, q⟩ => L2.thn (hw.pk.run pos pins s1 σ H1 _ I1 q) fun ws s2 ⟨zs, H2, I2, rz, q⟩ => ⟨I2.kIn, ?_⟩)
        (by rw [stars_no ha.sa.gd, k3]; rfl) (star_cons g.1)
      rw [k2]
      exact fin s2 us ws vs zs H2 I2 rv rz q
end

/-! ### promises -/
def Aft (B : Env1) (Λ : List Addr) (G H : Hp) (o : Out (PV × Sto)) (Q : PV → List Addr → Hp → Hp → Prop) (E : XK) : Prop := match o with
  | .ok (x, S') => ∀ Λ' G' H', Stp Λ G H Λ' G' H' → SR B.L Λ' G' H' S' → Q x Λ' G' H'
  | .exc c fs S' => ∀ cls d Λ' G' H', Stp Λ G H Λ' G' H' → SR B.L Λ' G' H' S' → ExR B.L B.xf c fs Λ' G' cls d → E cls d H'
  | .stk => False
/-- a function of ours -/
def PrF (B : Env1) (np : Nat) (F : List PV → M PV) : Sp := fun vs H Q E => vs.length = np ∧ ∃ Λ G S xs, SR B.L Λ G H S ∧ RepL B.L Λ G xs vs ∧ Aft B Λ G H (F xs S) (fun x Λ' G' H' => ∀ v, Rep B.L Λ' G' x v → Q v H') E
/-- an __init__: the new instance stands ahead of the arguments -/
def PrI (B : Env1) (np c : Nat) (F : List PV → M PV) : Sp := fun vs H Q E => vs.length = np ∧ ∃ y dx ws Λ G H0 S xs, vs = .ref y :: ws ∧ H0 y = none ∧ H0 dx = none ∧ dx ≠ y ∧ H = upd (upd H0 dx (.own y)) y (.ins (B.L.cl c) dx []) ∧ SR B.L Λ G H0 S ∧ RepL B.L Λ G xs ws ∧
  Aft B Λ G H0 (F xs S) (fun x Λ' G' H' => Rep B.L Λ' G' x (.ref y) → Q .non H') E

/-! ### where arguments come from -/
def cV : PV → V
  | .bl b => .bl b
  | .int i => .int i
  | .str x => .str x
  | _ => .non
def isC : PV → Bool
  | .non => true
  | .bl _ => true
  | .int _ => true
  | .str _ => true
  | _ => false
theorem rep_c {L : Lk} {Λ : List Addr} {G : Hp} {v : PV} (h : isC v = true) : Rep L Λ G v (cV v) := by
  cases v <;> first | (simp only [Rep, cV]; done) | cases h
def selV : List Sel → List V → List V → List V
  | [], _, _ => []
  | .p i :: r, vs, zs => vs.getD i .non :: selV r vs zs
  | .k i :: r, vs, zs => zs.getD i .non :: selV r vs zs
  | .d _ v :: r, vs, zs => cV v :: selV r vs zs
def selC : List Sel → Bool
  | [] => true
  | .d _ v :: r => isC v && selC r
  | _ :: r => selC r
theorem sel_rep {L : Lk} {Λ : List Addr} {G : Hp} {xs ys : List PV} {vs zs : List V} (rx : RepL L Λ G xs vs) (ry : RepL L Λ G ys zs) : ∀ {sel : List Sel} {rs : List PV}, selC sel = true → selP sel xs ys = some rs → RepL L Λ G rs (selV sel vs zs)
  | [], rs, _, h => by cases h; exact repL_nil
  | s :: r, rs, hc, h => by
    unfold selP at h
    split at h
    · rename_i v ws h1 h2
      cases h
      cases s with
      | p i =>
        obtain ⟨w, e, q⟩ := rx.get (i := i) (x := v) h1
        have e2 : vs.getD i .non = w := by rw [List.getD_eq_getElem?_getD, e]; rfl
        unfold selV
        rw [e2]
        exact repL_cons q (sel_rep rx ry hc h2)
      | k i =>
        obtain ⟨w, e, q⟩ := ry.get (i := i) (x := v) h1
        have e2 : zs.getD i .non = w := by rw [List.getD_eq_getElem?_getD, e]; rfl
        unfold selV
        rw [e2]
        exact repL_cons q (sel_rep rx ry hc h2)
      | d j u =>
        cases h1
        have hc2 : (isC v && selC r) = true := hc
        rw [Bool.and_eq_true] at hc2
        exact repL_cons (rep_c hc2.1) (sel_rep rx ry hc2.2 h2)
    · cases h
/-- a call of function f with n values and the keywords ks binds as sel says -/
structure Bd (B : Env1) (f n : Nat) (ks : List Str) (sel : List Sel) : Prop where
  ln : sel.length = (B.ps f).length
  cs : selC sel = true
  ex : ∃ g : List Value → List Value → List Value, (∀ (s : Shared) (us ws : List Value), B.L.K.In s.heap → us.length = n → ws.length = ks.length → BindsTo s (B.fd f) ⟨us, ks.zip ws⟩ ((B.ps f).zip (g us ws))) ∧
    ∀ (vs zs : List V) (us ws : List Value), vs.length = n → zs.length = ks.length → Vals vs us → Vals zs ws → Vals (selV sel vs zs) (g us ws)
theorem selV_len (vs zs : List V) : ∀ sel : List Sel, (selV sel vs zs).length = sel.length
  | [] => rfl
  | .p i :: r => congrArg Nat.succ (selV_len vs zs r)
  | .k i :: r => congrArg Nat.succ (selV_len vs zs r)
  | .d _ v :: r => congrArg Nat.succ (selV_len vs zs r)
theorem selV_up (y : V) (vs zs : List V) : ∀ sel : List Sel, selV (sel.map Sel.up) (y :: vs) zs = selV sel vs zs
  | [] => rfl
  | .p i :: r => congrArg (List.cons (vs.getD i .non)) (selV_up y vs zs r)
  | .k i :: r => congrArg (List.cons _) (selV_up y vs zs r)
  | .d _ v :: r => congrArg (List.cons _) (selV_up y vs zs r)
theorem selC_up : ∀ sel : List Sel, selC (sel.map Sel.up) = selC sel
  | [] => rfl
  | .p i :: r => selC_up r
  | .k i :: r => selC_up r
  | .d _ v :: r => congrArg (isC v && ·) (selC_up r)

/-! ### calls -/
section
variable {B : Env1} {X : Cx} {n : Nat} {N W : List Str} {sc : Scope} {a : Expr} {fa : Env → M PV} {es : List Expr} {fs fk : Env → M (List PV)} {kws : List Keyword} {ks : List Str} {x m : Str} {p apos pos : Pos} {r : Nat} {sel : List Sel}
theorem WP_call {σ : L2.St} {Λ : List Addr} {G H : Hp} {S : Sto} {F : M PV} {K : KK PV} (h : WP B X σ Λ G H F S K) {Q : VK} (k : ∀ x S' Λ' G' H', Stp Λ G H Λ' G' H' → SR B.L Λ' G' H' S' → K x S' Λ' G' H' → ∀ v, Rep B.L Λ' G' x v → Q v H') :
    Aft B Λ G H (F S) (fun x Λ' G' H' => ∀ v, Rep B.L Λ' G' x v → Q v H') (EX X σ) := by
  unfold WP at h
  unfold Aft
  cases e : F S with
  | stk => rw [e] at h; exact h
  | exc c fs S' => rw [e] at h; exact h
  | ok q => rw [e] at h; exact fun Λ' G' H' t s v rv => k _ _ _ _ _ t s (h Λ' G' H' t s) v rv
theorem gl_of (ok : XOk B n N sc W X) (h : sc.names.lookup x = some .globalImplicit) : Gl X x := by
  show X.env.kindOf x = _
  unfold Env.kindOf
  rw [ok.nsc]; exact h
/-- f(e, .., k = v, ..) -/
theorem snd_call (ok : XOk B n N sc W X) {f : Nat} {F : List PV → M PV} (hF : FnG B.L.P B.L.w B.L.K B.L.mg B.L.base r (B.fa f) (B.fd f) (B.ps f) (PrF B (B.ps f).length F)) (hr : r ≤ n) (hb : Bd B f es.length ks sel)
    (hg : sc.names.lookup x = some .globalImplicit) (hm : B.L.mg x = some (.ref (B.fa f))) (hk : PySem.W.keepIn B.L.K (.ref (B.fa f)) = true) (hd : (x == ("__debug__" : Str)) = false) (ha : SG B X es fs) (hw : SK B X kws ks fk) :
    SE B X false (.Call (.Name x p) es kws pos) (fun ρ => bnd (fs ρ) fun xs => bnd (fk ρ) fun ys => bnd (opt (selP sel xs ys)) fun zs => F zs) := by
  refine ⟨⟨fun pins s σ H Q I ⟨Λ, G, H0, ρ, S, sr, er, h⟩ => ?_⟩, rfl⟩
  refine wpAny_Call_Name_kw (ld_glob I (gl_of ok hg) (by rw [ok.mg]; exact hm) ?_ hd)
  obtain ⟨g, b1, b2⟩ := hb.ex
  refine go_call (first := []) (Rq := fun vs zs H2 => vs.length = es.length ∧ zs.length = ks.length ∧ PrF B (B.ps f).length F (selV sel vs zs) H2 Q (EX X σ)) (by rw [ok.K]; exact hk) ha hw I ?_ fun s2 us ws vs zs H2 I2 rv rz ⟨l1, l2, q⟩ => ?_
  · refine ⟨Λ, G, H0, ρ, S, sr, er, WP_imp (WP_bnd h) fun xs S1 Λ1 G1 H1 e1 t1 s1 h1 vs rvs => ⟨Λ1, G1, H0, ρ, S1, s1, er.step t1, WP_imp (WP_bnd h1) fun ys S2 Λ2 G2 H2 e2 t2 s2 h2 zs rzs => ?_⟩⟩
    obtain ⟨rs, e3, h3⟩ := WP_opt (WP_bnd h2)
    refine ⟨by rw [← rvs.len]; exact ha.ln _ _ _ _ e1, by rw [← rzs.len]; exact hw.ln _ _ _ _ e2, by rw [selV_len]; exact hb.ln, Λ2, G2, S2, rs, s2, sel_rep (rvs.mono t2.g t2.pre) rzs hb.cs e3, ?_⟩
    exact WP_call (h3 Λ2 G2 H2 .refl s2) fun x S' Λ' G' H' t s k v rv => k v rv
  · have hF' : FnG X.prog X.w X.K X.mg X.base r (B.fa f) (B.fd f) (B.ps f) (PrF B (B.ps f).length F) := by rw [ok.prog, ok.w, ok.K, ok.mg, ok.base]; exact hF
    refine use_fn hF' ok.gu (ok.room.mono hr) (b1 s2 us ws (by rw [← ok.K]; exact I2.kIn) (by rw [← rv.length]; exact l1) (by rw [← rz.length]; exact l2)) (passAt (EX_takes X) σ) I2 (b2 vs zs us ws l1 l2 rv rz) q
/-- C(e, .., k = v, ..) -/
theorem snd_make (ok : XOk B n N sc W X) {c f : Nat} {F : List PV → M PV} (M : Mk B.L.K (B.L.cl c) (B.fa f)) (hF : FnG B.L.P B.L.w B.L.K B.L.mg B.L.base r (B.fa f) (B.fd f) (B.ps f) (PrI B (B.ps f).length c F)) (hr : r + 1 ≤ n) (hb : Bd B f (es.length + 1) ks (.p 0 :: sel.map Sel.up))
    (hg : sc.names.lookup x = some .globalImplicit) (hm : B.L.mg x = some (.ref (B.L.cl c))) (hd : (x == ("__debug__" : Str)) = false) (ha : SG B X es fs) (hw : SK B X kws ks fk) :
    SE B X false (.Call (.Name x p) es kws pos) (fun ρ => bnd (fs ρ) fun xs => bnd (fk ρ) fun ys => bnd (opt (selP sel xs ys)) fun zs => F zs) := by
  refine ⟨⟨fun pins s σ H Q I ⟨Λ, G, H0, ρ, S, sr, er, h⟩ => ?_⟩, rfl⟩
  refine wpAny_Call_Name_kw (ld_glob I (gl_of ok hg) (by rw [ok.mg]; exact hm) ?_ hd)
  obtain ⟨g, b1, b2⟩ := hb.ex
  refine go_call (first := []) (Rq := fun vs zs H2 => vs.length = es.length ∧ zs.length = ks.length ∧ ∀ y dx, H2 y = none → H2 dx = none → dx ≠ y → PrI B (B.ps f).length c F (.ref y :: selV sel vs zs) (upd (upd H2 dx (.own y)) y (.ins (B.L.cl c) dx [])) (fun v H3 => v = .non ∧ Q (.ref y) H3) (EX X σ))
    (by rw [ok.K]; exact M.kp) ha hw I ?_ fun s2 us ws vs zs H2 I2 rv rz ⟨l1, l2, q⟩ => ?_
  · refine ⟨Λ, G, H0, ρ, S, sr, er, WP_imp (WP_bnd h) fun xs S1 Λ1 G1 H1 e1 t1 s1 h1 vs rvs => ⟨Λ1, G1, H0, ρ, S1, s1, er.step t1, WP_imp (WP_bnd h1) fun ys S2 Λ2 G2 H2 e2 t2 s2 h2 zs rzs => ?_⟩⟩
    obtain ⟨rs, e3, h3⟩ := WP_opt (WP_bnd h2)
    refine ⟨by rw [← rvs.len]; exact ha.ln _ _ _ _ e1, by rw [← rzs.len]; exact hw.ln _ _ _ _ e2, fun y dx hy hdx ne => ⟨?_, y, dx, selV sel vs zs, Λ2, G2, H2, S2, rs, rfl, hy, hdx, ne, rfl, s2, ?_, ?_⟩⟩
    · have l := hb.ln
      rw [List.length_cons, List.length_map] at l
      rw [List.length_cons, selV_len]; exact l
    · refine sel_rep (rvs.mono t2.g t2.pre) rzs ?_ e3
      have c := hb.cs
      have c2 : selC (sel.map Sel.up) = true := c
      rw [selC_up] at c2; exact c2
    · have q := WP_call (h3 Λ2 G2 H2 .refl s2) (Q := fun v H' => Q v H') fun x S' Λ' G' H' t s k v rv => k v rv
      unfold Aft at q ⊢
      cases e : F rs S2 with
      | stk => rw [e] at q; exact q
      | exc c fs S' => rw [e] at q; exact q
      | ok z => rw [e] at q; exact fun Λ' G' H' t s rv => ⟨rfl, q Λ' G' H' t s _ rv⟩
  · have hF' : FnG X.prog X.w X.K X.mg X.base r (B.fa f) (B.fd f) (B.ps f) (PrI B (B.ps f).length c F) := by rw [ok.prog, ok.w, ok.K, ok.mg, ok.base]; exact hF
    have key : ∀ y : V, ∀ u : Value, RelV y u → Vals (y :: selV sel vs zs) (g (u :: us) ws) := fun y u ry => by
      have z := b2 (y :: vs) zs (u :: us) ws (by rw [List.length_cons, l1]) l2 (.cons ry rv) rz
      have e : selV (.p 0 :: sel.map Sel.up) (y :: vs) zs = y :: selV sel vs zs := by
        show y :: selV (sel.map Sel.up) (y :: vs) zs = _
        rw [selV_up]
      rw [e] at z; exact z
    exact use_make (by rw [ok.K]; exact M) hF' ok.gu (ok.room.mono hr) (fun s y kin => b1 s (y :: us) ws (by rw [← ok.K]; exact kin) (by rw [List.length_cons, ← rv.length, l1]) (by rw [← rz.length]; exact l2)) (passAt (EX_takes X) σ) I2 key q
end
end PF

set_option linter.all false
set_option maxRecDepth 100000
namespace PF
open PySem PySem.Spec PyProof.Rows L2

/-! ### arguments that are read and not kept -/
def RepBL (L : Lk) (Λ : List Addr) (G H : Hp) : List PV → List V → Prop
  | [], vs => vs = []
  | x :: xs, vs => ∃ v r, vs = v :: r ∧ RepB L Λ G H x v ∧ RepBL L Λ G H xs r
def tAb (B : Env1) (X : Cx) (f : Env → M (List PV)) : TA := fun σ H Q => ∃ Λ G H0 ρ S, SR B.L Λ G H S ∧ ER B.L Λ G H H0 σ ρ ∧ WP B X σ Λ G H (f ρ) S fun xs _ Λ' G' H' => ∀ vs, RepBL B.L Λ' G' H' xs vs → Q vs H'
structure SB (B : Env1) (X : Cx) (es : List Expr) (f : Env → M (List PV)) : Prop where
  pa : PA X es (tAb B X f)
  gd : es.all PF.gd = true
def rB (B : Env1) (f : List PV → Option PV) : List V → Hp → VK → Prop := fun vs H Q => ∃ Λ G S xs z, SR B.L Λ G H S ∧ RepBL B.L Λ G H xs vs ∧ f xs = some z ∧ OK1 B Λ G H S z Q
section
variable {B : Env1} {X : Cx} {n : Nat} {N W : List Str} {sc : Scope} {a : Expr} {fa : Env → M PV} {ba : Bool} {es : List Expr} {fs : Env → M (List PV)} {x : Str} {p pos : Pos}
theorem sb_nil : SB B X [] (fun _ => ret []) := ⟨PA_imp pa_nil fun σ H Q ⟨Λ, G, H0, ρ, S, sr, er, h⟩ => WP_ret h Λ G H .refl sr [] (by simp only [RepBL]), rfl⟩
theorem sb_cons (ha : SE B X ba a fa) (hs : SB B X es fs) : SB B X (a :: es) (fun ρ => bnd (fa ρ) fun x => bnd (fs ρ) fun xs => ret (x :: xs)) :=
  ⟨PA_imp (pa_cons ha.pe hs.pa (star_cons ha.gd)) fun σ H Q ⟨Λ, G, H0, ρ, S, sr, er, h⟩ => ⟨Λ, G, H0, ρ, S, sr, er, WP_imp (WP_bnd h) fun x S1 Λ1 G1 H1 _ t1 s1 h1 v rv =>
    ⟨Λ1, G1, H0, ρ, S1, s1, er.step t1, WP_imp (WP_bnd h1) fun xs S2 Λ2 G2 H2 _ t2 s2 h2 vs rvs => WP_ret h2 Λ2 G2 H2 .refl s2 (v :: vs) (by simp only [RepBL]; exact ⟨v, vs, rfl, rv.b.step t2, rvs⟩)⟩⟩,
    by rw [List.all_cons, ha.gd, hs.gd]; rfl⟩

/-! ### the built-in calls -/
def bifT : Bif → Bool
  | .int => true | .tuple => true | .list => true | .str => true | .bool => true
  | _ => false
def bifN : Bif → String
  | .len => "len" | .int => "int" | .abs => "abs" | .tuple => "tuple" | .list => "list" | .sorted => "sorted" | .sum => "sum" | .max => "max" | .min => "min" | .all => "all" | .any => "any" | .repr => "repr" | .str => "str" | .bool => "bool"
def bifV (b : Bif) : Value := if bifT b then .type (bifN b) else .builtin (bifN b)
theorem bl1 {L : Lk} {Λ : List Addr} {G H : Hp} {x : PV} {vs : List V} (h : RepBL L Λ G H [x] vs) : ∃ v, vs = [v] ∧ RepB L Λ G H x v := by
  simp only [RepBL] at h
  obtain ⟨v, r, rfl, q, rfl⟩ := h
  exact ⟨v, rfl, q⟩
theorem bl2 {L : Lk} {Λ : List Addr} {G H : Hp} {x y : PV} {vs : List V} (h : RepBL L Λ G H [x, y] vs) : ∃ v w, vs = [v, w] ∧ RepB L Λ G H x v ∧ RepB L Λ G H y w := by
  simp only [RepBL] at h
  obtain ⟨v, r, rfl, q, w, r', rfl, q', rfl⟩ := h
  exact ⟨v, w, rfl, q, q'⟩
theorem foldl_max : ∀ (l : List Int) (x m : Int), m ∈ x :: l → (∀ y ∈ x :: l, y ≤ m) → l.foldl max x = m
  | [], x, m, h1, h2 => by rw [List.mem_singleton.mp h1]; rfl
  | y :: l, x, m, h1, h2 => by
    rw [List.foldl_cons]
    refine foldl_max l (max x y) m ?_ fun z hz => ?_
    · rcases List.mem_cons.mp h1 with e | h1
      · have := h2 y (by simp)
        rw [e]; have e2 : max x y = x := by omega
        rw [e2]; simp
      · rcases List.mem_cons.mp h1 with e | h1
        · have := h2 x (by simp)
          rw [e]; have e2 : max x y = y := by omega
          rw [e2]; simp
        · exact List.mem_cons_of_mem _ h1
    · rcases List.mem_cons.mp hz with e | hz
      · have h3 := h2 x (by simp)
        have h4 := h2 y (by simp)
        omega
      · exact h2 z (by simp [hz])
theorem foldl_min : ∀ (l : List Int) (x m : Int), m ∈ x :: l → (∀ y ∈ x :: l, m ≤ y) → l.foldl min x = m
  | [], x, m, h1, h2 => by rw [List.mem_singleton.mp h1]; rfl
  | y :: l, x, m, h1, h2 => by
    rw [List.foldl_cons]
    refine foldl_min l (min x y) m ?_ fun z hz => ?_
    · rcases List.mem_cons.mp h1 with e | h1
      · have := h2 y (by simp)
        rw [e]; have e2 : min x y = x := by omega
        rw [e2]; simp
      · rcases List.mem_cons.mp h1 with e | h1
        · have := h2 x (by simp)
          rw [e]; have e2 : min x y = y := by omega
          rw [e2]; simp
        · exact List.mem_cons_of_mem _ h1
    · rcases List.mem_cons.mp hz with e | hz
      · have h3 := h2 x (by simp)
        have h4 := h2 y (by simp)
        omega
      · exact h2 z (by simp [hz])
theorem insI_perm (x : Int) : ∀ l : List Int, (insI x l).Perm (x :: l)
  | [] => .refl _
  | y :: l => by
    unfold insI
    split
    · exact ((insI_perm x l).cons y).trans (.swap ..)
    · exact .refl _
theorem sortI_perm : ∀ l : List Int, (sortI l).Perm l
  | [] => .refl _
  | x :: l => (insI_perm x _).trans ((sortI_perm l).cons x)
theorem insI_srt (x : Int) : ∀ l : List Int, l.Pairwise (· ≤ ·) → (insI x l).Pairwise (· ≤ ·)
  | [], _ => by simp [insI]
  | y :: l, h => by
    unfold insI
    obtain ⟨h1, h2⟩ := List.pairwise_cons.mp h
    split
    · rename_i hlt
      refine List.pairwise_cons.mpr ⟨fun z hz => ?_, insI_srt x l h2⟩
      rcases List.mem_cons.mp ((insI_perm x l).mem_iff.mp hz) with e | hz
      · omega
      · exact h1 z hz
    · rename_i hlt
      refine List.pairwise_cons.mpr ⟨fun z hz => ?_, h⟩
      rcases List.mem_cons.mp hz with e | hz
      · omega
      · have := h1 z hz; omega
theorem sortI_srt : ∀ l : List Int, (sortI l).Pairwise (· ≤ ·)
  | [] => .nil
  | x :: l => insI_srt x _ (sortI_srt l)
theorem insS_perm (x : Str) : ∀ l : List Str, (insS x l).Perm (x :: l)
  | [] => .refl _
  | y :: l => by
    unfold insS
    split
    · exact ((insS_perm x l).cons y).trans (.swap ..)
    · exact .refl _
theorem sortS_perm : ∀ l : List Str, (sortS l).Perm l
  | [] => .refl _
  | x :: l => (insS_perm x _).trans ((sortS_perm l).cons x)
theorem strs_le {x y : Str} : ltCps y.cps.toList x.cps.toList = false ↔ x.cps.toList ≤ y.cps.toList := by
  rw [ltCps_eq, decide_eq_false_iff_not]; exact Iff.rfl
theorem sortedS_pw : ∀ (l : List Str) (p : Str), risingS p l = true → (p :: l).Pairwise (fun a b => a.cps.toList ≤ b.cps.toList)
  | [], p, _ => List.pairwise_singleton ..
  | x :: r, p, h => by
    have h0 : (!ltCps x.cps.toList p.cps.toList && risingS x r) = true := h
    rw [Bool.and_eq_true, Bool.not_eq_true'] at h0
    have ih := sortedS_pw r x h0.2
    have hx := strs_le.mp h0.1
    refine List.pairwise_cons.mpr ⟨fun z hz => ?_, ih⟩
    rcases List.mem_cons.mp hz with e | hz
    · rw [e]; exact hx
    · exact List.le_trans hx ((List.pairwise_cons.mp ih).1 z hz)
theorem str_ext {x y : Str} (h : x.cps.toList = y.cps.toList) : x = y := by
  obtain ⟨⟨a⟩⟩ := x
  obtain ⟨⟨b⟩⟩ := y
  simp at h
  rw [h]
theorem insS_srt (x : Str) : ∀ l : List Str, l.Pairwise (fun a b => a.cps.toList ≤ b.cps.toList) → (insS x l).Pairwise (fun a b => a.cps.toList ≤ b.cps.toList)
  | [], _ => by simp [insS]
  | y :: l, h => by
    unfold insS
    obtain ⟨h1, h2⟩ := List.pairwise_cons.mp h
    split
    · rename_i hlt
      refine List.pairwise_cons.mpr ⟨fun z hz => ?_, insS_srt x l h2⟩
      rcases List.mem_cons.mp ((insS_perm x l).mem_iff.mp hz) with e | hz
      · rw [e]
        unfold strLt at hlt
        exact List.le_of_lt (of_decide_eq_true hlt)
      · exact h1 z hz
    · rename_i hlt
      have hxy : x.cps.toList ≤ y.cps.toList := by
        unfold strLt at hlt
        intro z
        exact hlt (decide_eq_true z)
      refine List.pairwise_cons.mpr ⟨fun z hz => ?_, h⟩
      rcases List.mem_cons.mp hz with e | hz
      · rw [e]; exact hxy
      · exact List.le_trans hxy (h1 z hz)
theorem sortS_srt : ∀ l : List Str, (sortS l).Pairwise (fun a b => a.cps.toList ≤ b.cps.toList)
  | [] => .nil
  | x :: l => insS_srt x _ (sortS_srt l)
theorem sortS_uni {ys xs : List Str} (h : ys.Perm xs) (s : sortedS ys = true) : ys = sortS xs := by
  have pw : ys.Pairwise (fun a b => a.cps.toList ≤ b.cps.toList) := by
    cases ys with
    | nil => exact .nil
    | cons x r => exact sortedS_pw r x s
  exact List.Perm.eq_of_pairwise (fun a b _ _ h1 h2 => str_ext (List.le_antisymm h1 h2)) pw (sortS_srt xs) (h.trans (sortS_perm xs).symm)
theorem sortI_uni {ys xs : List Int} (h : ys.Perm xs) (s : ys.Pairwise (· ≤ ·)) : ys = sortI xs :=
  List.Perm.eq_of_pairwise (fun a b _ _ h1 h2 => by omega) s (sortI_srt xs) (h.trans (sortI_perm xs).symm)

theorem rep_tupB {L : Lk} {Λ : List Addr} {G H : Hp} {xs : List PV} {v : V} (r : RepB L Λ G H (.tup xs) v) : Rep L Λ G (.tup xs) v := by
  rcases r with r | ⟨_, _, _, e, _⟩ | ⟨_, _, _, _, _, _, e, _⟩
  · exact r
  · cases e
  · cases e
theorem rep_ints {L : Lk} {Λ : List Addr} {G : Hp} (ns : List Int) : RepL L Λ G (ns.map PV.int) (ns.map V.int) := repL_map (fun _ => by simp only [Rep]) ns
theorem rep_strs {L : Lk} {Λ : List Addr} {G : Hp} (ns : List Str) : RepL L Λ G (ns.map PV.str) (ns.map V.str) := repL_map (fun _ => by simp only [Rep]) ns
theorem call_bif (ok : XOk B n N sc W X) (b : Bif) : CallR X (bifV b) (rB B (bifP b)) := by
  intro pins s σ H vs us Q I rv ⟨Λ, G, S, xs, z, sr, rx, e, k⟩
  have hk := ok.K
  unfold bifP at e
  split at e
  -- len
  · split at e
    · rename_i y hl
      cases e
      obtain ⟨v, rfl, r⟩ := bl1 rx
      exact call_len pins s σ H _ us Q I rv ⟨_, _, rfl, by rw [r.str]; exact ⟨by rw [← line_eq]; exact hl, rfl⟩, k.same sr (by simp only [Rep])⟩
    · cases e
  · cases e
    obtain ⟨v, rfl, r⟩ := bl1 rx
    obtain ⟨a, ws, rfl, h1, t⟩ := r.lst sr.sub
    exact call_len pins s σ H _ us Q I rv ⟨_, _, rfl, .inl ⟨ws, SqL.of h1, rfl⟩, k.same sr (by simp only [Rep]; rw [t.len])⟩
  · cases e
    obtain ⟨v, rfl, r⟩ := bl1 rx
    obtain ⟨a, ws, rfl, h1, t⟩ := r.tup sr.sub
    exact call_len pins s σ H _ us Q I rv ⟨_, _, rfl, .inr ⟨ws, by rw [hk]; exact h1, rfl⟩, k.same sr (by simp only [Rep]; rw [t.len])⟩
  -- int
  · cases e
    obtain ⟨v, rfl, r⟩ := bl1 rx
    exact call_int1 pins s σ H _ us Q I rv (.inl ⟨_, by rw [r.int], k.same sr (by simp only [Rep])⟩)
  · cases e
    obtain ⟨v, rfl, r⟩ := bl1 rx
    exact call_int1 pins s σ H _ us Q I rv (.inr ⟨_, by rw [r.bl], k.same sr (by simp only [Rep])⟩)
  -- abs
  · cases e
    obtain ⟨v, rfl, r⟩ := bl1 rx
    exact call_abs pins s σ H _ us Q I rv ⟨_, by rw [r.int], k.same sr (by simp only [Rep])⟩
  -- tuple
  · cases e
    obtain ⟨v, rfl, r⟩ := bl1 rx
    obtain ⟨a, ws, rfl, h1, t⟩ := r.lst sr.sub
    exact call_tuple_of pins s σ H _ us Q I rv ⟨a, ws, rfl, .inl ⟨SqL.of h1, fun l hl => k.new sr hl (rep_tup t (sr.sub.none hl))⟩⟩
  · cases e
    obtain ⟨v, rfl, r⟩ := bl1 rx
    have r0 := rep_tupB r
    obtain ⟨a, ws, rfl, h1, t⟩ := r.tup sr.sub
    exact call_tuple_of pins s σ H _ us Q I rv ⟨a, ws, rfl, .inr ⟨by rw [hk]; exact h1, k.same sr r0⟩⟩
  -- list
  · cases e
    obtain ⟨v, rfl, r⟩ := bl1 rx
    obtain ⟨a, ws, rfl, h1, t⟩ := r.lst sr.sub
    exact call_list_of pins s σ H _ us Q I rv ⟨a, ws, rfl, .inl (SqL.of h1), fun l hl => k.new sr hl (rep_lst t (sr.sub.none hl))⟩
  · cases e
    obtain ⟨v, rfl, r⟩ := bl1 rx
    obtain ⟨a, ws, rfl, h1, t⟩ := r.tup sr.sub
    exact call_list_of pins s σ H _ us Q I rv ⟨a, ws, rfl, .inr (by rw [hk]; exact h1), fun l hl => k.new sr hl (rep_lst t (sr.sub.none hl))⟩
  -- max, min
  · cases e
    obtain ⟨v, w, rfl, r, r'⟩ := bl2 rx
    exact call_max2 ok.calm pins s σ H _ us Q I rv ⟨_, _, by rw [r.int, r'.int], k.same sr (by simp only [Rep])⟩
  · cases e
    obtain ⟨v, w, rfl, r, r'⟩ := bl2 rx
    exact call_min2 ok.calm pins s σ H _ us Q I rv ⟨_, _, by rw [r.int, r'.int], k.same sr (by simp only [Rep])⟩
  · split at e
    · rename_i m ms hn
      cases e
      obtain ⟨v, rfl, r⟩ := bl1 rx
      obtain ⟨a, ws, rfl, h1, t⟩ := r.lst sr.sub
      refine cr_max ok.calm pins s σ H _ us Q I rv ⟨a, m :: ms, rfl, by rw [← t.ints hn]; exact SqL.of h1, by simp, fun j h1 h2 => k.same sr ?_⟩
      simp only [Rep, maxL]; rw [foldl_max ms m j h1 h2]
    · cases e
  · split at e
    · rename_i m ms hn
      cases e
      obtain ⟨v, rfl, r⟩ := bl1 rx
      obtain ⟨a, ws, rfl, h1, t⟩ := r.lst sr.sub
      refine cr_min ok.calm pins s σ H _ us Q I rv ⟨a, m :: ms, rfl, by rw [← t.ints hn]; exact SqL.of h1, by simp, fun j h1 h2 => k.same sr ?_⟩
      simp only [Rep, minL]; rw [foldl_min ms m j h1 h2]
    · cases e
  -- sum, all, any
  · obtain ⟨ns, hn, e⟩ := Option.map_eq_some_iff.mp e
    cases e
    obtain ⟨v, rfl, r⟩ := bl1 rx
    obtain ⟨a, ws, rfl, h1, t⟩ := r.lst sr.sub
    exact cr_sum ok.calm pins s σ H _ us Q I rv ⟨a, ns, rfl, by rw [← t.ints hn]; exact SqL.of h1, k.same sr (by simp only [Rep])⟩
  · obtain ⟨ns, hn, e⟩ := Option.map_eq_some_iff.mp e
    cases e
    obtain ⟨v, rfl, r⟩ := bl1 rx
    obtain ⟨a, ws, rfl, h1, t⟩ := r.lst sr.sub
    exact cr_all ok.calm pins s σ H _ us Q I rv ⟨a, ns, rfl, by rw [← t.bools hn]; exact SqL.of h1, k.same sr (by simp only [Rep])⟩
  · obtain ⟨ns, hn, e⟩ := Option.map_eq_some_iff.mp e
    cases e
    obtain ⟨v, rfl, r⟩ := bl1 rx
    obtain ⟨a, ws, rfl, h1, t⟩ := r.lst sr.sub
    exact cr_any ok.calm pins s σ H _ us Q I rv ⟨a, ns, rfl, by rw [← t.bools hn]; exact SqL.of h1, k.same sr (by simp only [Rep])⟩
  -- sorted
  · split at e
    · rename_i hl
      obtain ⟨v, rfl, r⟩ := bl1 rx
      obtain ⟨a, ws, rfl, h1, t⟩ := r.lst sr.sub
      have l := t.len
      split at e
      · rename_i ys hn
        cases e
        have e2 := t.strs hn
        have l2 : ys.length < 64 := by rw [e2, List.length_map] at l; omega
        refine cr_sortedS pins s σ H _ us Q I rv ⟨a, ys, rfl, by rw [← e2]; exact SqL.of h1, l2, fun zs q h3 h4 hq => ?_⟩
        rw [sortS_uni h3 h4]
        exact k.new sr hq (rep_lst (rep_strs _) (sr.sub.none hq))
      · rename_i hs
        obtain ⟨ns, hn, e⟩ := Option.map_eq_some_iff.mp e
        cases e
        have e2 := t.ints hn
        have l2 : ns.length < 64 := by rw [e2, List.length_map] at l; omega
        refine cr_sorted pins s σ H _ us Q I rv ⟨a, ns, rfl, by rw [← e2]; exact SqL.of h1, l2, fun zs q h3 h4 hq => ?_⟩
        rw [sortI_uni h3 h4]
        exact k.new sr hq (rep_lst (rep_ints _) (sr.sub.none hq))
    · cases e
  -- repr
  · cases e
    obtain ⟨v, rfl, r⟩ := bl1 rx
    obtain ⟨u, rfl, ru⟩ := vals1 rv
    rw [r.non] at ru
    cases (show u = Value.none from ru)
    exact PySem.P.repr_of_none ⟨.str "None", H, I.tok _, ⟨_, rfl⟩, k.same sr (by simp only [Rep])⟩
  · obtain ⟨d, d1, d2, d3, d4, d5, rfl⟩ := reprP_ok e
    obtain ⟨v, rfl, r⟩ := bl1 rx
    obtain ⟨p, ws, rfl, _, _⟩ := r.lst sr.sub
    exact call_reprD ok.gu ok.room.units pins s σ H _ us Q I rv ⟨p, d, rfl, by rw [hk]; exact DpB_of sr.sub r d1, d2, d3, d4, d5, k.same sr (by simp only [Rep])⟩
  · obtain ⟨d, d1, d2, d3, d4, d5, rfl⟩ := reprP_ok e
    obtain ⟨v, rfl, r⟩ := bl1 rx
    obtain ⟨p, ws, rfl, _, _⟩ := r.tup sr.sub
    exact call_reprD ok.gu ok.room.units pins s σ H _ us Q I rv ⟨p, d, rfl, by rw [hk]; exact DpB_of sr.sub r d1, d2, d3, d4, d5, k.same sr (by simp only [Rep])⟩
  · split at e
    · rename_i hl
      cases e
      obtain ⟨v, rfl, r⟩ := bl1 rx
      exact SkE.call_repr_int pins s σ H _ us Q I rv ⟨_, by rw [r.int], hl, k.same sr (by simp only [Rep])⟩
    · cases e
  · cases e
theorem snd_bif (ok : XOk B n N sc W X) (b : Bif) {e : Expr} (hx : x = Str.ofString (bifN b)) (hg : sc.names.lookup x = some .globalImplicit) (hm : B.L.mg x = none) (ha : SB B X (e :: es) fs) :
    SE B X false (.Call (.Name x p) (e :: es) [] pos) (fun ρ => bnd (fs ρ) fun xs => opt (bifP b xs)) := by
  refine ⟨?_, rfl⟩
  have g := ha.gd
  rw [List.all_cons, Bool.and_eq_true] at g
  have fin : PE X (.Call (.Name x p) (e :: es) [] pos) (tCB (rB B (bifP b)) (tAb B X fs)) := by
    have hn : x ≠ "__name__" := by subst hx; cases b <;> decide
    have hd : (x == ("__debug__" : Str)) = false := by subst hx; cases b <;> decide
    have hm' : X.mg x = none := by rw [ok.mg]; exact hm
    by_cases ht : bifT b = true
    · have c := call_bif ok b
      unfold bifV at c
      rw [if_pos ht] at c
      exact pe_callTy c (gl_of ok hg) hm' (by subst hx; cases b <;> first | (cases ht; done) | decide +kernel) ha.pa hn hd (star_cons g.1) (stars_no g.2)
    · have c := call_bif ok b
      unfold bifV at c
      rw [if_neg ht] at c
      exact pe_callB c (gl_of ok hg) hm' (by subst hx; cases b <;> first | (exact absurd rfl ht; done) | decide +kernel) ha.pa hn hd (star_cons g.1) (stars_no g.2)
  refine PE_imp fin fun σ H Q ⟨Λ, G, H0, ρ, S, sr, er, h⟩ => ⟨Λ, G, H0, ρ, S, sr, er, WP_imp (WP_bnd h) fun xs S1 Λ1 G1 H1 _ t1 s1 h1 vs rvs => ?_⟩
  obtain ⟨z, e, h2⟩ := WP_opt h1
  exact ⟨Λ1, G1, S1, xs, z, s1, rvs, e, fun v' Λ' G' H' t s r => h2 Λ' G' H' t s v' r⟩
end
end PF

set_option linter.all false
set_option maxRecDepth 100000
namespace PF
open PySem PySem.Spec PyProof.Rows L2

/-! ### what is known of the classes -/
def tyV (B : Env1) : Ty → Value
  | .b n => .type n
  | .c k => .ref (B.L.cl k)
def tyVV (B : Env1) : Ty → V
  | .b n => .ty n
  | .c k => .ref (B.L.cl k)
/-- an instance's type, as isinstance asks it -/
structure Obj1 (K : PySem.W.Frag) (C : Addr) : Prop where
  cl : Cls K C
  ha : PySem.W.findIn K (.ref C) "__class__" = some (some (.builtin "object.__class__"))
  hn : PySem.W.specialIn K (.builtin "object.__class__") "__get__" = some (some (.builtin "getset_descriptor.__get__"))
  htk : PySem.W.takesIn K (.builtin "object.__class__") = some true
  hm : PySem.W.mroIn K C (.type "object") = some true
structure CF (B : Env1) (pg : Pg) : Prop where
  ob : ∀ k, k < pg.cls.length → Obj1 B.L.K (B.L.cl k)
  att : ∀ k f, (pg.cls.getD k default).flds.contains f = true → Cls B.L.K (B.L.cl k) ∧ NoAttr B.L.K (B.L.cl k) f
  met : ∀ k m f, (pg.cls.getD k default).meths.lookup m = some f → Cls B.L.K (B.L.cl k) ∧ Meth B.L.K (B.L.cl k) m (B.fa f)
  eq : ∀ k, k < pg.cls.length → PySem.W.findIn B.L.K (.ref (B.L.cl k)) "__ne__" = some (some (.builtin "object.__ne__")) ∧ PySem.W.mroIn B.L.K (B.L.cl k) (.type "object") = some true
  sub : ∀ c t b, subOne pg c t = some b → PySem.W.subIn B.L.K (tyV B t) (.ref (B.L.cl c)) = some b
  isi : ∀ t u b, isiOne pg t u = some b → PySem.W.kitOne B.L.K (tyV B t) (tyV B u) = some b

section
variable {B : Env1} {X : Cx} {n : Nat} {N W : List Str} {sc : Scope} {a : Expr} {fa : Env → M PV} {ba : Bool} {es : List Expr} {fs : Env → M (List PV)} {x m : Str} {p apos pos : Pos} {pg : Pg} {r : Nat} {sel : List Sel}
theorem snd_att (ok : XOk B n N sc W X) (cf : CF B pg) {f : Str} (ha : SE B X ba a fa) (hs : nosup a = true) : SE B X false (.Attribute a f pos) (fun ρ => bnd (fa ρ) fun x => opt (attP pg f x)) := by
  refine ⟨PE_imp (pe_fld ha.pe (att_base hs)) fun σ H Q ⟨Λ, G, H0, ρ, S, sr, er, h⟩ => ⟨Λ, G, H0, ρ, S, sr, er, WP_imp (WP_bnd h) fun x S1 Λ1 G1 H1 _ t1 s1 h1 v rv => ?_⟩, rfl⟩
  obtain ⟨z, e, h2⟩ := WP_opt h1
  cases x with
  | ins c ns xs =>
    simp only [attP] at e
    split at e
    · rename_i hc
      obtain ⟨q, dx, vs, rfl, hq, hl, t⟩ := rv.b.ins s1.sub
      obtain ⟨u, hu, ru⟩ := fld_rep t e
      obtain ⟨k1, k2⟩ := cf.att c f hc
      exact ⟨q, _, dx, _, u, rfl, hq, by rw [ok.K]; exact k1, by rw [ok.K]; exact k2, hu, h2 _ _ _ .refl s1 u ru⟩
    · cases e
  | _ => cases e

theorem lookup_none {m : Str} : ∀ {ns : List Str} {vs : List V}, ns.contains m = false → (ns.zip vs).lookup m = none
  | [], _, _ => rfl
  | k :: ns, [], _ => rfl
  | k :: ns, v :: vs, h => by
    rw [List.contains_cons, Bool.or_eq_false_iff] at h
    rw [List.zip_cons_cons, List.lookup_cons, h.1]
    exact lookup_none h.2
/-- o.m(e, .., k = v, ..) -/
theorem snd_meth (ok : XOk B n N sc W X) (cf : CF B pg) {ks : List Str} {kws : List Keyword} {fk : Env → M (List PV)} {F : Nat → List PV → M PV} (hF : ∀ c f, (pg.cls.getD c default).meths.lookup m = some f → FnG B.L.P B.L.w B.L.K B.L.mg B.L.base r (B.fa f) (B.fd f) (B.ps f) (PrF B (B.ps f).length (F f)) ∧ Bd B f (es.length + 1) ks (.p 0 :: sel.map Sel.up)) (hr : r ≤ n)
    (hs : nosup a = true) (hl : (apos.endLine == pos.line) = true) (h30 : es.length + kws.length < 15) (ho : SE B X false a fa) (ha : SG B X es fs) (hw : SK B X kws ks fk) :
    SE B X false (.Call (.Attribute a m apos) es kws pos) (fun ρ => bnd (fa ρ) fun x => bnd (opt (methP pg m x)) fun f => bnd (fs ρ) fun xs => bnd (fk ρ) fun ys => bnd (opt (selP sel xs ys)) fun zs => F f (x :: zs)) := by
  refine ⟨⟨fun pins s σ H Q I ⟨Λ, G, H0, ρ, S, sr, er, h⟩ => ?_⟩, rfl⟩
  have form : methodCallForm (es.length + kws.length) (backTo pos (starEach es X.env)) (backToKw pos (keywordEach kws X.env)) = true := by
    unfold methodCallForm
    have g := stars_no (env := X.env) (pos := pos) ha.sa.gd
    have e1 : (backTo pos (starEach es X.env)).all (!·.1) = true := by
      rw [List.all_eq_true]
      intro q hq
      have z : ¬ ((backTo pos (starEach es X.env)).any (·.1) = true) := by rw [g]; decide
      rw [List.any_eq_true] at z
      cases e : q.1 with
      | false => rfl
      | true => exact absurd ⟨q, hq, e⟩ z
    obtain ⟨k1, k2, k3⟩ := kw_all (env := X.env) (pos := pos) hw.nm
    rw [e1, k1]
    simp only [Bool.true_and]
    split <;> exact decide_eq_true (by omega)
  refine PySem.W.methodCall_KW (pl := plainOf a X.env) (L2.thn (ho.pe.run pins s σ H (fun v H1 => ∃ q c f ns xs vs, v = .ref q ∧ (∃ dx, H1 q = some (.ins (B.L.cl c) dx (ns.zip vs))) ∧ ns.contains m = false ∧ (pg.cls.getD c default).meths.lookup m = some f ∧
    ∃ Λ1 G1 S1, SR B.L Λ1 G1 H1 S1 ∧ ER B.L Λ1 G1 H1 H0 σ ρ ∧ Rep B.L Λ1 G1 (.ins c ns xs) (.ref q) ∧ WP B X σ Λ1 G1 H1 (bnd (fs ρ) fun xs' => bnd (fk ρ) fun ys => bnd (opt (selP sel xs' ys)) fun zs => F f (.ins c ns xs :: zs)) S1 fun x _ Λ' G' H' => ∀ v, Rep B.L Λ' G' x v → Q v H') I
    ⟨Λ, G, H0, ρ, S, sr, er, WP_imp (WP_bnd h) fun x S1 Λ1 G1 H1 _ t1 s1 h1 v rv => ?_⟩) fun u s1 ⟨v, H1, I1, ru, q, c, f, ns, xs, vs, ev, ⟨dx, hq⟩, nm, lk, Λ1, G1, S1, sr1, er1, rq, h1⟩ => ?_) ?_
  · obtain ⟨f, e, h2⟩ := WP_opt (WP_bnd h1)
    cases x with
    | ins c ns xs =>
      simp only [methP] at e
      split at e
      · cases e
      · rename_i hc
        have rv0 := rv.s
        simp only [Rep] at rv0
        obtain ⟨q, dx, vs, rfl, hq, hl, t⟩ := rv0
        exact ⟨q, c, f, ns, xs, vs, rfl, ⟨dx, s1.sub _ _ hq⟩, by simpa using hc, e, Λ1, G1, S1, s1, er.step t1, rv.s, WP_imp (h2 _ _ _ .refl s1) fun _ _ _ _ _ _ _ _ k => k⟩
    | _ => cases e
  · subst ev
    cases (show u = Value.ref q from ru)
    obtain ⟨k1, k2⟩ := cf.met c m f lk
    obtain ⟨hG, hb⟩ := hF c f lk
    obtain ⟨g, b1, b2⟩ := hb.ex
    refine getmeth_ok I1 hq (by rw [ok.K]; exact k1) (by rw [ok.K]; exact k2) (lookup_none nm) ?_
    refine go_call (B := B) (first := [.ref q]) (ks := ks) (fk := fk) (Rq := fun vs zs H2 => vs.length = es.length ∧ zs.length = ks.length ∧ PrF B (B.ps f).length (F f) (.ref q :: selV sel vs zs) H2 Q (EX X σ)) (by rw [ok.K]; exact k2.kp) ha hw I1 ?_ fun s2 us ws vs' zs H2 I2 rv rz ⟨l1, l2, q2⟩ => ?_
    · refine ⟨Λ1, G1, H0, ρ, S1, sr1, er1, WP_imp (WP_bnd h1) fun xs' S2 Λ2 G2 H2 e2 t2 s2 h2 vs' rvs => ⟨Λ2, G2, H0, ρ, S2, s2, er1.step t2, WP_imp (WP_bnd h2) fun ys S3 Λ3 G3 H3 e4 t3 s3 h4 zs rzs => ?_⟩⟩
      obtain ⟨rs, e3, h3⟩ := WP_opt (WP_bnd h4)
      refine ⟨by rw [← rvs.len]; exact ha.ln _ _ _ _ e2, by rw [← rzs.len]; exact hw.ln _ _ _ _ e4, ?_, Λ3, G3, S3, _, s3, repL_cons ((rq.mono t2.g t2.pre).mono t3.g t3.pre) (sel_rep (rvs.mono t3.g t3.pre) rzs ?_ e3), WP_call (h3 Λ3 G3 H3 .refl s3) fun x S' Λ' G' H' t s k v rv => k v rv⟩
      · have l := hb.ln
        rw [List.length_cons, List.length_map] at l
        rw [List.length_cons, selV_len]; exact l
      · have c2 : selC (sel.map Sel.up) = true := hb.cs
        rw [selC_up] at c2; exact c2
    · have hF' : FnG X.prog X.w X.K X.mg X.base r (B.fa f) (B.fd f) (B.ps f) (PrF B (B.ps f).length (F f)) := by rw [ok.prog, ok.w, ok.K, ok.mg, ok.base]; exact hG
      have z := b2 (.ref q :: vs') zs (.ref q :: us) ws (by rw [List.length_cons, l1]) l2 (.cons rfl rv) rz
      have e : selV (.p 0 :: sel.map Sel.up) (V.ref q :: vs') zs = .ref q :: selV sel vs' zs := by
        show V.ref q :: selV (sel.map Sel.up) (V.ref q :: vs') zs = _
        rw [selV_up]
      rw [e] at z
      exact use_fn hF' ok.gu (ok.room.mono hr) (b1 s2 (.ref q :: us) ws (by rw [← ok.K]; exact I2.kIn) (by rw [List.length_cons, ← rv.length, l1]) (by rw [← rz.length]; exact l2)) (passAt (EX_takes X) σ) I2 z q2
  · rw [arm_eval_Call, att_base hs]
    refine congrArg (bind (eval a X.env)) (funext fun ov => congrArg (bind (standAt apos.atName)) (funext fun _ => ?_))
    exact mcall_line form hl
/-- x.f, x a name -/
theorem snd_atO (ok : XOk B n N sc W X) (cf : CF B pg) {f : Str} {i : Nat} (hi : N[i]? = some x) (hv : Vis sc x) (h1 : (x == ("__debug__" : Str)) = false) (h2 : (x == ("__classdict__" : Str)) = false) : SE B X false (.Attribute (.Name x p) f pos) (fun ρ => opt ((rdO ρ i).bind (attP pg f))) := by
  refine ⟨PE_imp (pe_fld (pe_var (i := i) (by rw [ok.nN]; exact hi) (by rw [ok.nsc]; exact hv) h1 h2) (att_base rfl)) fun σ H Q ⟨Λ, G, H0, ρ, S, sr, er, h⟩ => ?_, rfl⟩
  obtain ⟨z, e, h3⟩ := WP_opt h
  obtain ⟨y, e1, e2⟩ := Option.bind_eq_some_iff.mp e
  unfold rdO at e1
  cases q : ρ[i]? with
  | none => rw [q] at e1; cases e1
  | some sl =>
    rw [q] at e1
    obtain ⟨o, q1, q2⟩ := er.get q
    have key : ∀ {c : Nat} {ns : List Str} {xs : List PV} {a : Addr} {dx : Addr} {vs : List V}, y = .ins c ns xs → o = some (.ref a) → H a = some (.ins (B.L.cl c) dx (ns.zip vs)) → RepL B.L Λ G xs vs → ∃ v, σ[i]? = some (some v) ∧ ∃ (a C dx : Addr) (fs : List (Str × V)) (w : V), v = .ref a ∧ H a = some (.ins C dx fs) ∧ Cls X.K C ∧ NoAttr X.K C f ∧ fs.lookup f = some w ∧ Q w H := fun {c ns xs a dx vs} ey eo ha t => by
      subst ey eo
      simp only [attP] at e2
      split at e2
      · rename_i hc
        obtain ⟨u, hu, ru⟩ := fld_rep t e2
        obtain ⟨k1, k2⟩ := cf.att c f hc
        exact ⟨_, q1, a, _, dx, _, u, rfl, ha, by rw [ok.K]; exact k1, by rw [ok.K]; exact k2, hu, h3 _ _ _ .refl sr u (by simp only [RX, Bool.false_eq_true, if_false]; exact ru)⟩
      · cases e2
    cases sl with
    | val v =>
      cases e1
      cases y with
      | ins c ns xs =>
        obtain ⟨v, rfl, r⟩ := q2
        simp only [Rep] at r
        obtain ⟨a, dx, vs, rfl, ha, _, t⟩ := r
        exact key rfl rfl (sr.sub _ _ ha) t
      | _ => cases e2
    | obj c ns xs =>
      cases e1
      obtain ⟨a, dx, vs, rfl, ha, _, t, _⟩ := q2
      exact key rfl rfl ha t
    | own xs => cases e1
    | emp => cases e1
end
end PF

set_option linter.all false
set_option maxRecDepth 100000
namespace PF
open PySem PySem.Spec PyProof.Rows L2

section
variable {B : Env1} {X : Cx} {n : Nat} {N W : List Str} {sc : Scope} {a : Expr} {fa : Env → M PV} {ba : Bool} {es : List Expr} {fs : Env → M (List PV)} {x m : Str} {p pos : Pos} {pg : Pg}
theorem ty_rep (cf : CF B pg) {Λ : List Addr} {G H : Hp} {y : PV} {v : V} {t u : Ty} {b : Bool} (s : Sub G H) (r : RepB B.L Λ G H y v) (e : tyP y = some t) (hu : isiOne pg t u = some b) : TyX B.L.K H v (tyV B t) := by
  cases y with
  | non => cases e; rw [r.non]; exact .base .non
  | bl k => cases e; rw [r.bl]; exact .base (.bl _)
  | int i => cases e; rw [r.int]; exact .base (.int _)
  | str z => cases e; rw [r.str]; exact .base (.str _)
  | lst xs =>
    cases e
    obtain ⟨q, vs, rfl, h, _⟩ := r.lst s
    exact .base (.lst h)
  | tup xs =>
    cases e
    obtain ⟨q, vs, rfl, h, _⟩ := r.tup s
    rcases h with (h | ⟨o, h⟩) | h
    · exact .base (.tup h)
    · exact .fTuple h
    · obtain ⟨o, its, n, h1, h2, _⟩ := h
      exact .kTuple h1 h2
  | ins c ns xs =>
    cases e
    obtain ⟨q, dx, vs, rfl, h, _⟩ := r.ins s
    have hc : c < pg.cls.length := by
      cases u with
      | b z =>
        simp only [isiOne] at hu
        split at hu
        · rename_i w; rw [Bool.and_eq_true, decide_eq_true_eq] at w; exact w.1
        · cases hu
      | c z =>
        simp only [isiOne] at hu
        split at hu
        · rename_i w; rw [Bool.and_eq_true, decide_eq_true_eq] at w; exact w.1
        · cases hu
    have o := cf.ob c hc
    exact .base (.ins h o.cl o.ha o.hn o.htk o.hm)
  | loc _ => cases e
  | scr _ => cases e
theorem any_kit (cf : CF B pg) {t : Ty} : ∀ {us : List Ty} {b : Bool}, isiP pg t us = some b → PySem.W.kitAny B.L.K (tyV B t) (us.map (tyV B)) = some b
  | [], b, h => by cases h; exact kitAny_nil
  | u :: us, b, h => by
    unfold isiP at h
    split at h
    · rename_i e
      cases h
      exact kitAny_cons (cf.isi _ _ _ e) (fun z => nomatch z) (fun _ => rfl)
    · rename_i e
      exact kitAny_cons (cf.isi _ _ _ e) (fun _ => any_kit cf h) (fun z => nomatch z)
    · cases h
theorem clsV_ty (t : Ty) : ClsV (tyVV B t) (tyV B t) := by
  cases t with
  | b n => exact .ty n
  | c k => exact .own _
/-- a class, as a name -/
structure STy (B : Env1) (X : Cx) (e : Expr) (t : Ty) : Prop where
  pe : PE X e (tC (tyVV B t))
  gd : gd e = true
theorem sty_b (ok : XOk B n N sc W X) {T : String} (hg : sc.names.lookup x = some .globalImplicit) (hm : B.L.mg x = none) (hv : bootBuiltins x = some (.type T)) (hn : x ≠ "__name__") (hd : (x == ("__debug__" : Str)) = false) : STy B X (.Name x pos) (.b T) :=
  ⟨pe_bltn (gl_of ok hg) (by rw [ok.mg]; exact hm) hv rfl hn hd, rfl⟩
theorem sty_c (ok : XOk B n N sc W X) {k : Nat} (hg : sc.names.lookup x = some .globalImplicit) (hm : B.L.mg x = some (.ref (B.L.cl k))) (hd : (x == ("__debug__" : Str)) = false) : STy B X (.Name x pos) (.c k) :=
  ⟨pe_glob (gl_of ok hg) (by rw [ok.mg]; exact hm) rfl hd, rfl⟩
inductive SIs (B : Env1) (X : Cx) : Expr → List Ty → Prop where
  | one {e : Expr} {t : Ty} (h : STy B X e t) : SIs B X e [t]
  | tup {es : List Expr} {ts : List Ty} {k : Nat} {pos : Pos} (pa : PA X es fun _ H Q => Q (ts.map (tyVV B)) H) (g : es.all gd = true) (l : ts.length ≤ 100) (ne : ts ≠ []) : SIs B X (.Tuple es k pos) ts
theorem sis_nil : PA X [] (fun _ H Q => Q (([] : List Ty).map (tyVV B)) H) := pa_nil
theorem sis_cons {e : Expr} {t : Ty} {ts : List Ty} (h : STy B X e t) (hs : PA X es fun _ H Q => Q (ts.map (tyVV B)) H) : PA X (e :: es) fun _ H Q => Q ((t :: ts).map (tyVV B)) H := pa_cons h.pe hs (star_cons h.gd)
theorem pair_ty : ∀ ts : List Ty, Paired ClsV (ts.map (tyVV B)) (ts.map (tyV B))
  | [] => .nil
  | t :: ts => .cons (clsV_ty t) (pair_ty ts)
theorem isi_two {t : Ty} {us : List Ty} {b : Bool} (h : isiP pg t us = some b) (ne : us ≠ []) : ∃ u k, isiOne pg t u = some k := by
  cases us with
  | nil => exact absurd rfl ne
  | cons u us =>
    unfold isiP at h
    cases e : isiOne pg t u with
    | none => rw [e] at h; cases h
    | some k => exact ⟨u, k, e⟩
theorem boot_isi : bootBuiltins "isinstance" = some (.builtin "isinstance") := by decide +kernel
theorem snd_isi (ok : XOk B n N sc W X) (cf : CF B pg) {ty : Expr} {ts : List Ty} (hx : x = "isinstance") (hg : sc.names.lookup x = some .globalImplicit) (hm : B.L.mg x = none) (ha : SE B X ba a fa) (ht : SIs B X ty ts) :
    SE B X false (.Call (.Name x p) [a, ty] [] pos) (fun ρ => bnd (fa ρ) fun x => bnd (opt (tyP x)) fun t => bnd (opt (isiP pg t ts)) fun b => ret (.bl b)) := by
  subst hx
  refine ⟨?_, rfl⟩
  have hm' : X.mg "isinstance" = none := by rw [ok.mg]; exact hm
  cases ht with
  | one h =>
    rename_i t0
    refine PE_imp (pe_callB call_isi (gl_of ok hg) hm' boot_isi (pa_cons ha.pe (pa_cons h.pe pa_nil (star_cons h.gd)) (star_cons ha.gd)) (by decide) (by decide) (star_cons ha.gd) (by rw [star_cons h.gd]; rfl))
      fun σ H Q ⟨Λ, G, H0, ρ, S, sr, er, h⟩ => ⟨Λ, G, H0, ρ, S, sr, er, WP_imp (WP_bnd h) fun x S1 Λ1 G1 H1 _ t1 s1 h1 v rv => ?_⟩
    obtain ⟨t, e1, h2⟩ := WP_opt (WP_bnd h1)
    obtain ⟨b, e2, h3⟩ := WP_opt (WP_bnd (h2 _ _ _ .refl s1))
    obtain ⟨u, k, e3⟩ := isi_two e2 (by simp)
    have e4 := any_kit cf e2
    refine ⟨v, _, _, _, b, rfl, clsV_ty t0, by rw [ok.K]; exact ty_rep cf s1.sub rv.b e1 e3, ?_, WP_ret (h3 _ _ _ .refl s1) _ _ _ .refl s1 _ (by simp only [RX, Rep, Bool.false_eq_true, if_false])⟩
    rw [ok.K]
    unfold isiP at e2
    split at e2
    · rename_i e5; cases e2; exact cf.isi _ _ _ e5
    · rename_i e5; cases e2; exact cf.isi _ _ _ e5
    · cases e2
  | tup pa g l ne =>
    rename_i es0 k0 pos0
    refine PE_imp (pe_callB call_isiT (gl_of ok hg) hm' boot_isi (pa_cons ha.pe (pa_cons (pe_tup pa) pa_nil (star_cons rfl)) (star_cons ha.gd)) (by decide) (by decide) (star_cons ha.gd) (by rw [star_cons rfl]; rfl))
      fun σ H Q ⟨Λ, G, H0, ρ, S, sr, er, h⟩ => ⟨Λ, G, H0, ρ, S, sr, er, WP_imp (WP_bnd h) fun x S1 Λ1 G1 H1 _ t1 s1 h1 v rv => ?_⟩
    obtain ⟨t, e1, h2⟩ := WP_opt (WP_bnd h1)
    obtain ⟨b, e2, h3⟩ := WP_opt (WP_bnd (h2 _ _ _ .refl s1))
    obtain ⟨u, k, e3⟩ := isi_two e2 ne
    refine ⟨by rw [List.length_map]; have := line_eq; unfold line at this; omega, fun q hq => ?_⟩
    have tl : Stp Λ1 G1 H1 Λ1 G1 (upd H1 q (.tup (ts.map (tyVV B)))) := .laidO hq
    have sl := s1.laidO (o := .tup (ts.map (tyVV B))) hq
    exact ⟨v, q, _, _, _, b, rfl, upd_same, pair_ty ts, by rw [ok.K]; exact ty_rep cf sl.sub (rv.b.step tl) e1 e3, by rw [ok.K]; exact any_kit cf e2, WP_ret (h3 _ _ _ .refl s1) _ _ _ tl sl _ (by simp only [RX, Rep, Bool.false_eq_true, if_false])⟩
end
end PF

set_option linter.all false
set_option maxRecDepth 100000
set_option maxHeartbeats 1000000
namespace PF
open PySem PySem.Spec PyProof.Rows L2

/-! ### == and != by a class's own __eq__ -/
section
variable {prog : Program} {w : World} {A : Around} {E : Value → Shared → Prop} {s : Shared} {K : PySem.W.Frag} {x C f : Addr} {ox : Obj} {od : Option Obj} {b tb : Value}
theorem neBody (X : K.In s.heap) (I : PySem.W.InstAt s.heap x ox C od) (hu : A.units < cLine) (hs : PySem.W.findIn K (.ref C) "__eq__" = some (some (.ref f))) (hf : PySem.W.isFn K (.ref f) = true) {Q : Fin → Shared → Prop}
    (hc : wpAny (model prog w) A (call (.ref f) [.ref x, b]) (fun v s' => ∃ k, v = .bool k ∧ Q (.done (.ret (.bool (!k)))) s') E s) : wpAny (model prog w) A (Builtin.«object.__ne__» ⟨[.ref x, b], []⟩) Q E s := by
  unfold Builtin.«object.__ne__»
  repeat (first
    | with_reducible refine wpAny_cRoomFor hu ?_
    | (refine wpAny_bind (m := callSpecialIfBound? (.ref x) (Str.ofString "__eq__") [b])
        (PySem.W.ifBound_K X I hs hf (wpAny_mono hc (fun r s' hr => by
          obtain ⟨k, rfl, hq⟩ := hr
          repeat (first | exact hq | exact wpAny_pure hq | exact wpAny_truthy_bool hq | (refine wpAny_bind (m := truthy (.bool _)) (wpAny_truthy_bool ?_)) | wp_step)) fun _ _ e => e)))
    | wp_step)
theorem neBound (X : K.In s.heap) (I : PySem.W.InstAt s.heap x ox C od) {args : List Value} {Q : Option Value → Shared → Prop} (hn : PySem.W.findIn K (.ref C) "__ne__" = some (some (.builtin "object.__ne__")))
    (h : wpAny (model prog w) A (call (.builtin "object.__ne__") (.ref x :: args)) (fun v => Q (some v)) E s) : wpAny (model prog w) A (callSpecialIfBound? (.ref x) "__ne__" args) Q E s := by
  simp only [callSpecialIfBound?, bindSpecialIfBound?]
  refine wpAny_holding (wpAny_bind (wpAny_bind (wpAny_bind (I.type.here ((PySem.W.looks_findIn X hn).here ?_)))))
  simp only [F.cmp_object.ne.bind]
  have fin : wpAny (model prog w) A (call (.builtin "object.__ne__") ([.ref x] ++ args) >>= fun v => pure (some v)) Q E s := wpAny_bind (wpAny_mono h (fun v s' h' => wpAny_pure h') fun _ _ h' => h')
  refine wpAny_bind (wpAny_askSetting (wpAny_ite ?_))
  split
  · exact wpAny_bind (wpAny_pure (wpAny_pure fin))
  · exact wpAny_tryCatch (wpAny_bind (wpAny_pure (wpAny_pure fin)))
theorem neOwn (X : K.In s.heap) (I : PySem.W.InstAt s.heap x ox C od) (hu : A.units + 1 < cLine) (hb : PySem.W.Looks (model prog w) s.heap (typeOf b) tb) (hn : PySem.W.notFirst K C tb = true)
    (hne : PySem.W.findIn K (.ref C) "__ne__" = some (some (.builtin "object.__ne__"))) (hs : PySem.W.findIn K (.ref C) "__eq__" = some (some (.ref f))) (hf : PySem.W.isFn K (.ref f) = true) (hm : PySem.W.mroIn K C (.type "object") = some true) {Q : Value → Shared → Prop}
    (hc : wpAny (model prog w) A.in1 (call (.ref f) [.ref x, b]) (fun v s' => ∃ k, v = .bool k ∧ Q (.bool (!k)) s') E s) : wpAny (model prog w) A (richCompare .NotEq (.ref x) b) Q E s := by
  have sub : PySem.W.Looks (model prog w) s.heap (isInstance (.ref x) (.type "object")) true := I.type.andThen (PySem.W.looks_mroIn X hm)
  have one : wpAny (model prog w) A (tryCompare (.ref x) (cmpInfo .NotEq).2.1 b) (fun r s' => ∃ v, r = some v ∧ Q v s') E s := by
    show wpAny (model prog w) A (tryCompare (.ref x) "__ne__" b) _ E s
    unfold tryCompare
    refine wpAny_bind (neBound X I hne (wpAny_call (codeAny_call_builtin F.cmp_object.ne.plain F.cmpEntry_ne (@PySem.W.check_slot (model prog w) _ _ _ "object.__ne__" "object" "__ne__" (.ref x) [b] [] _ F.cmpKind_ne F.cmpSplit_ne sub (F.cmpArgs_ne _ _)
      (neBody (A := A.in1) X I hu hs hf (wpAny_mono hc (fun v s' hv => ?_) fun _ _ e => e))))))
    obtain ⟨k, rfl, hq⟩ := hv
    exact ⟨k, rfl, wpAny_pure ⟨_, rfl, hq⟩⟩
  unfold richCompare
  simp only [oneThing_ref]
  refine wpAny_holding (wpAny_bind (wpAny_cRoomFor (Nat.lt_of_succ_lt hu) ?_))
  refine wpAny_bind (I.type.here (wpAny_bind (hb.here ?_)))
  split
  · rename_i q
    have e : PySem.W.subIn K tb (.ref C) = some false := by
      rcases Bool.or_eq_true_iff.mp hn with e | e
      · rw [beq_iff_eq.mp e] at q; simp at q
      · exact beq_iff_eq.mp e
    refine wpAny_bind ((PySem.W.looks_subIn X e).here ?_)
    simp only [Bool.false_eq_true, if_false]
    refine wpAny_bind (wpAny_mono one (fun r s' z => ?_) fun _ _ e => e)
    obtain ⟨v, rfl, hq⟩ := z
    exact wpAny_pure hq
  · refine wpAny_bind (wpAny_pure ?_)
    simp only [Bool.false_eq_true, if_false]
    refine wpAny_bind (wpAny_mono one (fun r s' z => ?_) fun _ _ e => e)
    obtain ⟨v, rfl, hq⟩ := z
    exact wpAny_pure hq
end
/-- an operation on two values that may call -/
def rOpM (B : Env1) (f : PV → PV → M PV) : R2 := fun x y H Q => ∃ Λ G S a b z S', SR B.L Λ G H S ∧ RepB B.L Λ G H a x ∧ RepB B.L Λ G H b y ∧ f a b S = .ok (z, S') ∧ ∀ v Λ' G' H', Stp Λ G H Λ' G' H' → SR B.L Λ' G' H' S' → Rep B.L Λ' G' z v → Q v H'
def cmpV (pg : Pg) (C : Calls) (o : Cop) (x y : PV) : M PV := bnd (cmpM pg C o x y) fun k => ret (.bl k)
section
variable {B : Env1} {X : Cx} {pg : Pg} {C : Calls} {n r : Nat} {N W : List Str} {sc : Scope}
/-- the promise used below the running body -/
theorem use_at {a : Addr} {fd : FuncData} {ps : List Str} {sp : Sp} {A : Around} {pins : List (Addr × Obj)} {σ : L2.St} {H : Hp} {s : Shared} {Q : VK} {us zs : List Value} {vs : List V} (F : FnG X.prog X.w X.K X.mg X.base r a fd ps sp) (hf : A.frames = X.A.frames) (hg : A.guards = some []) (hr : Room r A)
    (hb : BindsTo s fd ⟨us, []⟩ (ps.zip zs)) (I : Inv X pins σ H s) (rv : Vals vs zs) (h : sp vs H Q fun _ _ _ => False) : wpAny (model X.prog X.w) A (call (.ref a) us) (EP X pins σ Q) X.xe s := by
  have e := I.env0
  have e0 : Env0 X.prog X.w X.K X.mg X.base A X.stack s H := ⟨by rw [hf]; exact e.frames, e.mod, e.bs, e.bsz, e.funs, e.frf, e.hok, e.bare⟩
  have px : PassesAt (CX X.prog X.w) X σ fun _ _ _ => False := passAt (W := fun _ _ _ _ => False) (fun _ _ ⟨_, _, _, _, _, _, _, _, _, _, _, _, _, _, _, _, z⟩ => z.elim) σ
  exact wpAny_call (codeAny_mono (F.go A X.stack s H ⟨us, []⟩ zs vs Q (fun _ _ _ => False) hg hr e0 hb rv h) fun res s' hq => match res, hq with
    | .error e, hq => px pins H s e s' I hq
    | .ok (.ret u), hq => I.after hq
    | .ok .next, hq => hq.elim
    | .ok .brk, hq => hq.elim
    | .ok .cont, hq => hq.elim)
/-- what is known of the __eq__ of the classes -/
def EqF (B : Env1) (pg : Pg) (C : Calls) (r : Nat) : Prop := ∀ k f, (pg.cls.getD k default).meths.lookup ("__eq__" : Str) = some f → FnG B.L.P B.L.w B.L.K B.L.mg B.L.base r (B.fa f) (B.fd f) (B.ps f) (PrF B (B.ps f).length (C.fn f)) ∧ Bd B f 2 [] [.p 0, .p 1]
theorem not_first (cf : CF B pg) {c : Nat} {y : PV} {t : Ty} (h : subOk pg c y = true) (e : tyP y = some t) : PySem.W.notFirst B.L.K (B.L.cl c) (tyV B t) = true ∧ ∃ u b, isiOne pg t u = some b := by
  unfold subOk at h
  rw [e] at h
  dsimp only at h
  have h := (Bool.and_eq_true_iff.mp h).2
  rcases Bool.or_eq_true_iff.mp h with h | h
  · cases t with
    | b n => cases h
    | c k =>
      rw [Bool.and_eq_true, decide_eq_true_eq] at h
      have e := beq_iff_eq.mp h.1
      subst e
      refine ⟨?_, .c k, _, show (if _ then some _ else none) = some _ from if_pos (by simp [h.2])⟩
      show (Value.ref (B.L.cl k) == .ref (B.L.cl k) || _) = true
      simp
  · split at h
    · rename_i b q
      cases b with
      | true => cases h
      | false =>
        refine ⟨?_, ?_⟩
        · unfold PySem.W.notFirst
          rw [cf.sub _ _ _ q]
          simp
        · cases t with
          | b a =>
            simp only [subOne] at q
            split at q
            · rename_i z
              exact ⟨.c c, false, show (if _ then some _ else none) = some _ from if_pos z⟩
            · cases q
          | c k =>
            simp only [subOne] at q
            split at q
            · rename_i z
              exact ⟨.c c, _, show (if _ then some _ else none) = some _ from if_pos (by rw [Bool.and_eq_true] at z ⊢; exact z)⟩
            · cases q
    · cases h
theorem noExc_okR {α : Type} {m : M α} {S : Sto} {a : α} {S' : Sto} (h : noExc m S = .ok (a, S')) : m S = .ok (a, S') := by
  unfold noExc at h
  cases e : m S with
  | ok p => rw [e] at h; exact h
  | exc _ _ _ => rw [e] at h; cases h
  | stk => rw [e] at h; cases h
theorem op_cmpM (ok : XOk B n N sc W X) (cf : CF B pg) (ef : EqF B pg C r) (hr : r + 1 ≤ n) (o : Cop) (ho : o ≠ .isn ∧ o ≠ .notn) : OpR X (compareOp (copOf o)) (rOpM B (cmpV pg C o)) := by
  rintro pins s σ H x y v u Q I rx ry ⟨Λ, G, S, a, b, z, S', sr, ra, rb, e, k⟩
  by_cases hi : ∃ c ns xs, a = .ins c ns xs
  · obtain ⟨c, ns, xs, rfl⟩ := hi
    have rA := ra.insR
    have rA2 := rA
    simp only [Rep] at rA
    obtain ⟨p, dx, vs, rfl, hp, hl, t⟩ := rA
    cases (show v = Value.ref p from rx)
    have hpH := sr.sub _ _ hp
    obtain ⟨mA, J, _⟩ := ins_get I.hok hpH
    obtain ⟨od, J, _⟩ := J.look
    have core : ∀ {k : Bool} {S1 : Sto}, eqC pg C c (.ins c ns xs) b S = .ok (k, S1) → ∃ f tb, (pg.cls.getD c default).meths.lookup ("__eq__" : Str) = some f ∧ PySem.W.Looks (model X.prog X.w) s.heap (typeOf u) tb ∧ PySem.W.notFirst X.K (B.L.cl c) tb = true ∧
        ∀ (A : Around) (Q' : VK), A.frames = X.A.frames → A.guards = some [] → Room r A → (∀ v Λ' G' H', Stp Λ G H Λ' G' H' → SR B.L Λ' G' H' S1 → v = .bl k → Q' v H') → wpAny (model X.prog X.w) A (call (.ref (B.fa f)) [.ref p, u]) (EP X pins σ Q') X.xe s := fun {k S1} e => by
      unfold eqC at e
      cases hf : (pg.cls.getD c default).meths.lookup ("__eq__" : Str) with
      | none => rw [hf] at e; cases e
      | some f =>
        rw [hf] at e
        dsimp only at e
        split at e
        · rename_i hs
          cases et : tyP b with
          | none => unfold subOk at hs; rw [et] at hs; cases hs
          | some tt =>
            obtain ⟨nf, w, bb, hw⟩ := not_first cf hs et
            have ty := ty_rep cf sr.sub rb et hw
            rw [← ok.K] at ty
            obtain ⟨P, kx, hP, _⟩ := kit_of I ry ty
            refine ⟨f, _, rfl, kx.ty _ _ I.kIn hP, by rw [ok.K]; exact nf, fun A Q' h1 h2 h3 hq => ?_⟩
            obtain ⟨hG, hb⟩ := ef c f hf
            obtain ⟨g, b1, b2⟩ := hb.ex
            have hF' : FnG X.prog X.w X.K X.mg X.base r (B.fa f) (B.fd f) (B.ps f) (PrF B (B.ps f).length (C.fn f)) := by rw [ok.prog, ok.w, ok.K, ok.mg, ok.base]; exact hG
            have rv : Vals [V.ref p, y] [Value.ref p, u] := .cons rfl (.cons ry .nil)
            obtain ⟨r1, S2, e1, e2⟩ := bnd_ok e
            have e1 := noExc_okR e1
            have rB : Rep B.L Λ G b y := by
              rcases rb with q | ⟨ys, q, ws, q1, _⟩ | ⟨_, _, _, _, _, _, _, _, _, _, _, q⟩
              · exact q
              · subst q1
                cases et
                unfold subOk at hs
                have hs := (Bool.and_eq_true_iff.mp hs).1
                exact absurd hs (by decide)
              · exact q.elim
            refine use_at hF' h1 h2 h3 (b1 s [.ref p, u] [] (by rw [← ok.K]; exact I.kIn) rfl rfl) I (b2 [.ref p, y] [] [.ref p, u] [] rfl rfl rv .nil) ⟨by rw [← hb.ln]; rfl, Λ, G, S, [.ins c ns xs, b], sr, repL_cons rA2 (repL_cons rB repL_nil), ?_⟩
            rw [e1]
            intro Λ' G' H' st sr' v rv'
            cases r1 with
            | bl k' =>
              cases e2
              simp only [Rep] at rv'
              exact hq v Λ' G' H' st sr' rv'
            | _ => cases e2
        · cases e
    cases o with
    | eq =>
      obtain ⟨k1, S1, e1, e2⟩ := bnd_ok e
      cases e2
      obtain ⟨f, tb, hf, hty, nf, run⟩ := core e1
      obtain ⟨c1, c2⟩ := cf.met c _ f hf
      have hlt : c < pg.cls.length := by
        by_cases hc : c < pg.cls.length
        · exact hc
        · rw [List.getD_eq_getElem?_getD, List.getElem?_eq_none (by omega)] at hf; cases hf
      obtain ⟨c3, c4⟩ := cf.eq c hlt
      show wpAny _ _ (richCompare .Eq (.ref p) u) _ _ s
      obtain ⟨m, hFr⟩ := I.fr
      refine PySem.W.cmp_K (op := .Eq) (C := B.L.cl c) (ox := _) (od := _) (K := X.K) ok.room.units0 hFr I.ok.mod.kin J hty nf (by rw [ok.K]; exact c2.at_) (by rw [ok.K]; exact c2.fn) ?_
      refine wpAny_mono (run X.A (fun v H' => v = .bl k1 ∧ Q v H') rfl ok.gu (ok.room.mono (by omega)) fun v Λ' G' H' st sr' ev => ⟨ev, k v Λ' G' H' st sr' (by rw [ev]; simp only [Rep])⟩) (fun u' s' hq => ?_) fun _ _ z => z
      obtain ⟨v', H', I', rv', ev, q⟩ := hq
      subst ev
      cases (show u' = Value.bool k1 from rv')
      exact ⟨.bl k1, H', I', (rfl : RelV (.bl k1) (.bool k1)), q⟩
    | ne =>
      obtain ⟨k0, S1, e1, e2⟩ := bnd_ok e
      obtain ⟨k1, S2, e3, e4⟩ := bnd_ok (show bnd (eqC pg C c (.ins c ns xs) b) (fun k => ret (!k)) S = _ from e1)
      have q4 : Out.ok (!k1, S2) = Out.ok (k0, S1) := e4
      have q5 : (!k1) = k0 ∧ S2 = S1 := by
        injection q4 with q
        injection q with q1 q2
        exact ⟨q1, q2⟩
      obtain ⟨q6, q7⟩ := q5
      subst q6 q7
      cases e2
      obtain ⟨f, tb, hf, hty, nf, run⟩ := core e3
      obtain ⟨c1, c2⟩ := cf.met c _ f hf
      have hlt : c < pg.cls.length := by
        by_cases hc : c < pg.cls.length
        · exact hc
        · rw [List.getD_eq_getElem?_getD, List.getElem?_eq_none (by omega)] at hf; cases hf
      obtain ⟨c3, c4⟩ := cf.eq c hlt
      show wpAny _ _ (richCompare .NotEq (.ref p) u) _ _ s
      refine neOwn (K := X.K) I.kIn J (by have := ok.room.units0; have := ok.room.un; omega) hty nf (by rw [ok.K]; exact c3) (by rw [ok.K]; exact c2.at_) (by rw [ok.K]; exact c2.fn) (by rw [ok.K]; exact c4) ?_
      refine wpAny_mono (run X.A.in1 (fun v H' => v = .bl k1 ∧ Q (.bl (!k1)) H') rfl ok.gu (ok.room.mono hr).in1 fun v Λ' G' H' st sr' ev => ⟨ev, k _ Λ' G' H' st sr' (by simp only [Rep])⟩) (fun u' s' hq => ?_) fun _ _ z => z
      obtain ⟨v', H', I', rv', ev, q⟩ := hq
      subst ev
      cases (show u' = Value.bool k1 from rv')
      exact ⟨k1, rfl, .bl (!k1), H', I', (rfl : RelV (.bl (!k1)) (.bool (!k1))), q⟩
    | isn => exact absurd rfl ho.1
    | notn => exact absurd rfl ho.2
    | _ => cases e
  · have e' : cmpM pg C o a b = opt (cmpP o a b) := by
      cases a <;> first | rfl | exact absurd ⟨_, _, _, rfl⟩ hi
    unfold cmpV at e
    rw [e'] at e
    obtain ⟨k1, S1, e1, e2⟩ := bnd_ok e
    obtain ⟨e3, e4⟩ := opt_ok e1
    cases e2
    subst e4
    exact op_cmp ok.K ok.room.units o ho pins s σ H x y v u Q I rx ry ⟨Λ, G, S', a, b, .bl k1, sr, ra, rb, by dsimp only; rw [e3]; rfl, k⟩
theorem noExc_no {α : Type} {m : M α} {S : Sto} {c : Nat} {fs : List PV} {S' : Sto} : noExc m S ≠ .exc c fs S' := fun h => by
  unfold noExc at h
  cases e : m S with
  | ok p => rw [e] at h; cases h
  | exc _ _ _ => rw [e] at h; cases h
  | stk => rw [e] at h; cases h
theorem bnd_no {α β : Type} {m : M α} {f : α → M β} {S : Sto} (h : ∀ c fs S', m S ≠ .exc c fs S') (k : ∀ a S1 c fs S', f a S1 ≠ .exc c fs S') {c : Nat} {fs : List PV} {S' : Sto} : bnd m f S ≠ .exc c fs S' := fun e => by
  unfold bnd at e
  cases q : m S with
  | ok p => rw [q] at e; exact k _ _ _ _ _ e
  | exc _ _ _ => exact h _ _ _ q
  | stk => rw [q] at e; cases e
theorem opt_no {α : Type} {o : Option α} {S : Sto} {c : Nat} {fs : List PV} {S' : Sto} : opt o S ≠ .exc c fs S' := fun h => by cases o <;> cases h
theorem eqC_no {c0 : Nat} {x y : PV} {S : Sto} {c : Nat} {fs : List PV} {S' : Sto} : eqC pg C c0 x y S ≠ .exc c fs S' := fun h => by
  unfold eqC at h
  cases q : (pg.cls.getD c0 default).meths.lookup ("__eq__" : Str) with
  | none => rw [q] at h; cases h
  | some f =>
    rw [q] at h
    dsimp only at h
    split at h
    · exact bnd_no (fun _ _ _ => noExc_no) (fun a S1 _ _ _ e => by cases a <;> cases e) h
    · cases h
theorem cmpM_no {o : Cop} {x y : PV} {S : Sto} {c : Nat} {fs : List PV} {S' : Sto} : cmpM pg C o x y S ≠ .exc c fs S' := fun h => by
  by_cases hi : ∃ c ns xs, x = .ins c ns xs
  · obtain ⟨c0, ns, xs, rfl⟩ := hi
    cases o with
    | eq => exact eqC_no h
    | ne => exact bnd_no (m := eqC pg C c0 (.ins c0 ns xs) y) (f := fun k => ret (!k)) (fun _ _ _ => eqC_no) (fun _ _ _ _ _ e => by cases e) h
    | _ => cases h
  · have e' : cmpM pg C o x y = opt (cmpP o x y) := by
      cases x <;> first | rfl | exact absurd ⟨_, _, _, rfl⟩ hi
    rw [e'] at h
    exact opt_no h
variable {a b : Expr} {ba bb : Bool} {fa fb : Env → M PV} {pos : Pos}
theorem snd_cmpM (ok : XOk B n N sc W X) (cf : CF B pg) (ef : EqF B pg C r) (hr : r + 1 ≤ n) {o : Cop} (ho : o ≠ .isn ∧ o ≠ .notn) (ha : SE B X ba a fa) (hb : SE B X bb b fb) :
    SE B X false (.Compare a [copOf o] [b] pos) (fun ρ => bnd (fa ρ) fun x => bnd (fb ρ) fun y => bnd (cmpM pg C o x y) fun k => ret (.bl k)) := by
  refine ⟨PE_imp (pe_cmpR (op_cmpM ok cf ef hr o ho) ha.pe hb.pe (mark_no hb.gd)) fun σ H Q ⟨Λ, G, H0, ρ, S, sr, er, h⟩ => ⟨Λ, G, H0, ρ, S, sr, er, WP_imp (WP_bnd h) fun x S1 Λ1 G1 H1 _ t1 s1 h1 v rv =>
    ⟨Λ1, G1, H0, ρ, S1, s1, er.step t1, WP_imp (WP_bnd h1) fun y S2 Λ2 G2 H2 _ t2 s2 h2 w rw => ?_⟩⟩, rfl⟩
  obtain ⟨z, S', e, k⟩ := WP_ok h2 (fun _ _ _ => bnd_no (fun _ _ _ => cmpM_no) (fun _ _ _ _ _ e => by cases e))
  exact ⟨Λ2, G2, S2, x, y, z, S', s2, rv.b.step t2, rw.b, e, fun v' Λ' G' H' t s r => k Λ' G' H' t s v' r⟩
theorem pt_cmpM (ok : XOk B n N sc W X) (cf : CF B pg) (ef : EqF B pg C r) (hr : r + 1 ≤ n) {o : Cop} (ho : o ≠ .isn ∧ o ≠ .notn) (ha : SE B X ba a fa) (hb : SE B X bb b fb) :
    PT X (.Compare a [copOf o] [b] pos) (tT B X fun ρ => bnd (bnd (fa ρ) fun x => bnd (fb ρ) fun y => bnd (cmpM pg C o x y) fun k => ret (.bl k)) fun x => opt (truP x)) := by
  refine PT_imp (pt_cmpR (op_cmpM ok cf ef hr o ho) ha.pe hb.pe (mark_no hb.gd)) fun σ H Q ⟨Λ, G, H0, ρ, S, sr, er, h⟩ => ⟨Λ, G, H0, ρ, S, sr, er, WP_imp (WP_bnd (WP_bnd h)) fun x S1 Λ1 G1 H1 _ t1 s1 h1 v rv =>
    ⟨Λ1, G1, H0, ρ, S1, s1, er.step t1, WP_imp (WP_bnd h1) fun y S2 Λ2 G2 H2 _ t2 s2 h2 w rw => ?_⟩⟩
  obtain ⟨z, S', e, k⟩ := WP_ok h2 (fun _ _ _ => bnd_no (fun _ _ _ => cmpM_no) (fun _ _ _ _ _ e => by cases e))
  refine ⟨Λ2, G2, S2, x, y, z, S', s2, rv.b.step t2, rw.b, e, fun v' Λ' G' H' t s r => ?_⟩
  obtain ⟨k1, S3, _, e3⟩ := bnd_ok e
  cases e3
  simp only [Rep] at r
  refine ⟨k1, r, ?_⟩
  obtain ⟨k', e', h4⟩ := WP_opt (k Λ' G' H' t s)
  cases e'
  exact h4 _ _ _ .refl s
end
end PF

set_option linter.all false
set_option maxRecDepth 100000
namespace PF
open PySem PySem.Spec PyProof.Rows L2

/-! ### targets -/
def gNs : List Nat → TGs
  | [] => gNil
  | i :: is => gCons (gName i) (gNs is)
def gT (K : PySem.W.Frag) : Tgt → TG
  | .nm i => gName i
  | .tp is => gTup K is.length (gNs is)
def tgIs : Tgt → List Nat
  | .nm i => [i]
  | .tp is => is
def setVs : List Nat → List V → L2.St → L2.St
  | i :: is, v :: vs, σ => setVs is vs (σ.set i (some v))
  | _, _, σ => σ
section
variable {L : Lk} {Λ : List Addr} {G H : Hp} {H0 : Ent}
theorem setTs_ok : ∀ {is : List Nat} {ys : List PV} {vs : List V} {ρ ρ' : Env} {σ : L2.St} {Q : L2.St → Hp → Prop}, setTs is ys ρ = some ρ' → RepL L Λ G ys vs → ER L Λ G H H0 σ ρ → (ER L Λ G H H0 (setVs is vs σ) ρ' → Q (setVs is vs σ) H) → gNs is vs σ H Q
  | [], [], vs, ρ, ρ', σ, Q, h, r, er, k => by
    cases h
    simp only [RepL] at r
    subst r
    exact ⟨rfl, k er⟩
  | i :: is, y :: ys, vs, ρ, ρ', σ, Q, h, r, er, k => by
    simp only [RepL] at r
    obtain ⟨v, ws, rfl, r1, r2⟩ := r
    exact ⟨v, ws, rfl, setTs_ok (is := is) h r2 (er.set i r1) k⟩
  | [], _ :: _, vs, ρ, ρ', σ, Q, h, r, er, k => by cases h
  | _ :: _, [], vs, ρ, ρ', σ, Q, h, r, er, k => by cases h
def setT (σ : L2.St) (K : PySem.W.Frag) (H : Hp) : Tgt → V → L2.St → Prop
  | .nm i, v, σ' => σ' = σ.set i (some v)
  | .tp is, _, σ' => ∃ vs, σ' = setVs is vs σ
theorem asgT_ok {tg : Tgt} {y : PV} {x : V} {ρ ρ' : Env} {σ : L2.St} {Q : L2.St → Hp → Prop} (s : Sub G H) (h : asgT tg y ρ = some ρ') (r : Rep L Λ G y x) (er : ER L Λ G H H0 σ ρ) (k : ∀ σ', ER L Λ G H H0 σ' ρ' → setT σ L.K H tg x σ' → Q σ' H) : gT L.K tg x σ H Q := by
  cases tg with
  | nm i =>
    cases h
    exact k _ (er.set i r) rfl
  | tp is =>
    cases y with
    | tup ys =>
      simp only [Rep] at r
      obtain ⟨a, vs, rfl, h1, r1⟩ := r
      refine ⟨a, vs, rfl, sqT_mono s h1, ?_, setTs_ok h r1 er fun e => k _ e ⟨vs, rfl⟩⟩
      have l : ∀ (is : List Nat) (ys : List PV) (ρ ρ' : Env), setTs is ys ρ = some ρ' → ys.length = is.length := by
        intro is
        induction is with
        | nil => intro ys ρ ρ' h; cases ys with
          | nil => rfl
          | cons _ _ => cases h
        | cons i is ih => intro ys ρ ρ' h; cases ys with
          | nil => cases h
          | cons y ys => exact congrArg Nat.succ (ih ys _ _ h)
      rw [← r1.len]; exact l is ys ρ ρ' h
    | _ => cases h
/-! ### the block's own slots -/
theorem wipe_get (σ : L2.St) : ∀ (vs : List Nat) (j : Nat), (wipe σ vs)[j]? = if j ∈ vs then (σ[j]?).map (fun _ => none) else σ[j]?
  | [], j => by simp [wipe]
  | v :: vs, j => by
    unfold wipe
    by_cases e : v = j
    · subst e
      rw [if_pos (by simp)]
      by_cases h : v < σ.length
      · rw [List.getElem?_set_self (by rw [wipe_length]; exact h), List.getElem?_eq_getElem h]; rfl
      · rw [List.getElem?_eq_none (by rw [List.length_set, wipe_length]; omega), List.getElem?_eq_none (by omega)]; rfl
    · rw [List.getElem?_set_ne e, wipe_get σ vs j]
      have : (j ∈ v :: vs) ↔ j ∈ vs := by simp [Ne.symm e]
      by_cases hj : j ∈ vs
      · rw [if_pos hj, if_pos (this.mpr hj)]
      · rw [if_neg hj, if_neg (fun z => hj (this.mp z))]
theorem wipe_set {σ : L2.St} {vs : List Nat} {i : Nat} {o : Option V} (h : i ∈ vs) : wipe (σ.set i o) vs = wipe σ vs := by
  apply List.ext_getElem?
  intro j
  rw [wipe_get, wipe_get]
  by_cases hj : j ∈ vs
  · rw [if_pos hj, if_pos hj]
    by_cases e : i = j
    · subst e
      by_cases hl : i < σ.length
      · rw [List.getElem?_set_self hl, List.getElem?_eq_getElem hl]; rfl
      · rw [List.getElem?_eq_none (by rw [List.length_set]; omega), List.getElem?_eq_none (by omega)]
    · rw [List.getElem?_set_ne e]
  · rw [if_neg hj, if_neg hj, List.getElem?_set_ne (fun e => hj (by rw [← e]; exact h))]
theorem wipe_setVs {vs : List Nat} : ∀ {is : List Nat} {xs : List V} {σ : L2.St}, (∀ i ∈ is, i ∈ vs) → wipe (setVs is xs σ) vs = wipe σ vs
  | [], xs, σ, _ => by cases xs <;> rfl
  | i :: is, [], σ, _ => rfl
  | i :: is, x :: xs, σ, h => by
    show wipe (setVs is xs (σ.set i (some x))) vs = _
    rw [wipe_setVs fun j hj => h j (List.mem_cons_of_mem _ hj), wipe_set (h i (List.mem_cons_self ..))]
theorem wipe_wipe (σ : L2.St) (vs : List Nat) : wipe (wipe σ vs) vs = wipe σ vs := by
  apply List.ext_getElem?
  intro j
  rw [wipe_get, wipe_get]
  by_cases hj : j ∈ vs
  · rw [if_pos hj, if_pos hj]
    cases σ[j]? <;> rfl
  · rw [if_neg hj, if_neg hj]
theorem wipe_setT {σ σ' : L2.St} {K : PySem.W.Frag} {tg : Tgt} {x : V} {vs : List Nat} (h : setT (wipe σ vs) K H tg x σ') (hi : ∀ i ∈ tgIs tg, i ∈ vs) : wipe σ' vs = wipe σ vs := by
  cases tg with
  | nm i =>
    have h : σ' = (wipe σ vs).set i (some x) := h
    rw [h, wipe_set (hi i (by simp [tgIs])), wipe_wipe]
  | tp is =>
    obtain ⟨ws, rfl⟩ := (show ∃ ws, σ' = setVs is ws (wipe σ vs) from h)
    rw [wipe_setVs (is := is) hi, wipe_wipe]
theorem ER.wipe {σ : L2.St} {ρ : Env} (er : ER L Λ G H H0 σ ρ) : ∀ vs : List Nat, ER L Λ G H H0 (L2.wipe σ vs) (wipeE ρ vs)
  | [] => er
  | v :: vs => (ER.wipe er vs).emp v none
end

/-! ### what an iterator gives -/
structure WkP (B : Env1) (J : It) (xs : List PV) (Λ1 : List Addr) (G1 : Hp) : Prop where
  ex : ∃ (Gd : Hp → Prop) (Y : Nat → Hp → V → Hp → Prop), Walk J xs.length Gd Y ∧ (∀ G H, Sub G1 G → Sub G H → Gd H) ∧
    ∀ i H x H' Λ G S, i < xs.length → Sub G1 G → Pre Λ1 Λ → SR B.L Λ G H S → Y i H x H' → ∃ G' y, xs[i]? = some y ∧ Stp Λ G H Λ G' H' ∧ SR B.L Λ G' H' S ∧ Rep B.L Λ G' y x
def tI (B : Env1) (X : Cx) (f : Env → M (List PV)) : TI := fun σ H R => ∃ Λ G H0 ρ S, SR B.L Λ G H S ∧ ER B.L Λ G H H0 σ ρ ∧ WP B X σ Λ G H (f ρ) S fun xs _ Λ1 G1 H1 => ∀ J, WkP B J xs Λ1 G1 → R J H1
structure SI (B : Env1) (X : Cx) (tg e : Expr) (f : Env → M (List PV)) : Prop where
  pi : PI X tg e (tI B X f)
  gd : gd e = true
section
variable {B : Env1} {X : Cx} {n : Nat} {N W : List Str} {sc : Scope} {a b tg : Expr} {fa fb : Env → M PV} {ba : Bool} {es : List Expr} {fs : Env → M (List PV)} {x : Str} {p pos : Pos} {Λ : List Addr} {G : Hp}
theorem wk_list {q : Addr} {xs : List PV} {vs : List V} (h : G q = some (.lst vs)) (r : RepL B.L Λ G xs vs) : WkP B (Itl B.L.K q) xs Λ G := by
  refine ⟨⟨fun H => SqL B.L.K H q vs, YAt vs, by rw [r.len]; exact walk_list (xs := vs), fun G' H s1 s2 => SqL.of (s2 _ _ (s1 _ _ h)), fun i H x H' Λ' G' S hi s1 pr sr ⟨e1, e2⟩ => ?_⟩⟩
  subst e1
  obtain ⟨y, e3, e4⟩ := r.get' e2
  exact ⟨G', y, e3, .refl, sr, e4.mono s1 pr⟩
theorem wk_tup {q : Addr} {xs : List PV} {vs : List V} (h : SqT B.L.K G q vs) (r : RepL B.L Λ G xs vs) : WkP B (Itt B.L.K q) xs Λ G := by
  refine ⟨⟨fun H => SqT B.L.K H q vs, YAt vs, by rw [r.len]; exact walk_tup (xs := vs), fun G' H s1 s2 => sqT_mono s2 (sqT_mono s1 h), fun i H x H' Λ' G' S hi s1 pr sr ⟨e1, e2⟩ => ?_⟩⟩
  subst e1
  obtain ⟨y, e3, e4⟩ := r.get' e2
  exact ⟨G', y, e3, .refl, sr, e4.mono s1 pr⟩
theorem wk_str {z : Str} : WkP B (Its z) (z.cps.toList.map fun c => PV.str ⟨#[c]⟩) Λ G := by
  refine ⟨⟨fun _ => True, fun i H v H' => H' = H ∧ ∃ c, z.cps[i]? = some c ∧ v = .str ⟨#[c]⟩, by rw [List.length_map, Array.length_toList]; exact walk_str, fun _ _ _ _ => trivial, fun i H x H' Λ' G' S hi s1 pr sr ⟨e1, c, e2, e3⟩ => ?_⟩⟩
  subst e1 e3
  exact ⟨G', .str ⟨#[c]⟩, by rw [List.getElem?_map, Array.getElem?_toList, e2]; rfl, .refl, sr, by simp only [Rep]⟩
theorem wk_range {lo : Int} {k : Nat} : WkP B (Itr lo k) ((List.range k).map fun (i : Nat) => PV.int (lo + i)) Λ G := by
  refine ⟨⟨fun _ => True, YFn fun i => .int (lo + i), by rw [List.length_map, List.length_range]; exact walk_range, fun _ _ _ _ => trivial, fun i H x H' Λ' G' S hi s1 pr sr ⟨e1, e2⟩ => ?_⟩⟩
  subst e1 e2
  rw [List.length_map, List.length_range] at hi
  exact ⟨G', .int (lo + i), by rw [List.getElem?_map, List.getElem?_range hi]; rfl, .refl, sr, by simp only [Rep]⟩
/-- a pair that was just laid -/
theorem pair_new {Λ' : List Addr} {G' H H' : Hp} {S : Sto} {T : Addr} {u v : V} {y z : PV} (sr : SR B.L Λ' G' H S) (hT : H T = none) (e : H' = upd H T (.tup [u, v])) (ru : Rep B.L Λ' G' y u) (rv : Rep B.L Λ' G' z v) :
    ∃ G2, Stp Λ' G' H Λ' G2 H' ∧ SR B.L Λ' G2 H' S ∧ Rep B.L Λ' G2 (.tup [y, z]) (.ref T) := by
  subst e
  exact ⟨upd G' T (.tup [u, v]), .laid hT sr.sub, sr.laid hT, rep_tup (repL_cons ru (repL_cons rv repL_nil)) (sr.sub.none hT)⟩
theorem wk_zip {q r : Addr} {xs ys : List PV} {vs ws : List V} (h1 : G q = some (.lst vs)) (h2 : G r = some (.lst ws)) (r1 : RepL B.L Λ G xs vs) (r2 : RepL B.L Λ G ys ws) : WkP B (Itz B.L.K q r) (List.zipWith (fun x y => PV.tup [x, y]) xs ys) Λ G := by
  refine ⟨⟨fun H => SqL B.L.K H q vs ∧ SqL B.L.K H r ws, YPair (fun i => vs[i]?) (fun i => ws[i]?), walk_zip (xs := vs) (ys := ws) (by rw [List.length_zipWith, r1.len, r2.len]), fun G' H s1 s2 => ⟨SqL.of (s2 _ _ (s1 _ _ h1)), SqL.of (s2 _ _ (s1 _ _ h2))⟩, fun i H x H' Λ' G' S hi s1 pr sr ⟨T, u, v, e1, e2, e3, e4, e5⟩ => ?_⟩⟩
  obtain ⟨y, e6, e7⟩ := r1.get' e4
  obtain ⟨z, e8, e9⟩ := r2.get' e5
  obtain ⟨G2, t, sr2, r⟩ := pair_new sr e2 e3 (e7.mono s1 pr) (e9.mono s1 pr)
  subst e1
  exact ⟨G2, _, by rw [List.getElem?_zipWith, e6, e8], t, sr2, r⟩
theorem wk_enum {q : Addr} {xs : List PV} {vs : List V} (h1 : G q = some (.lst vs)) (r1 : RepL B.L Λ G xs vs) : WkP B (Ite B.L.K q) (xs.zipIdx.map fun p => PV.tup [.int (p.2 : Int), p.1]) Λ G := by
  refine ⟨⟨fun H => SqL B.L.K H q vs, YPair (fun i => some (.int (i : Nat))) (fun i => vs[i]?), by rw [List.length_map, List.length_zipIdx, r1.len]; exact walk_enum (xs := vs), fun G' H s1 s2 => SqL.of (s2 _ _ (s1 _ _ h1)), fun i H x H' Λ' G' S hi s1 pr sr ⟨T, u, v, e1, e2, e3, e4, e5⟩ => ?_⟩⟩
  cases e4
  obtain ⟨z, e8, e9⟩ := r1.get' e5
  obtain ⟨G2, t, sr2, r⟩ := pair_new (y := .int (i : Nat)) sr e2 e3 (by simp only [Rep]) (e9.mono s1 pr)
  subst e1
  exact ⟨G2, _, by rw [List.getElem?_map, List.getElem?_zipIdx, e8]; simp, t, sr2, r⟩

/-! ### iterables -/
theorem PI_pick {f : Env → M (List PV)} {e : Expr} (h : ∀ ρ S, ∃ t : TI, PI X tg e t ∧ ∀ σ H R, (∃ Λ G H0, SR B.L Λ G H S ∧ ER B.L Λ G H H0 σ ρ ∧ WP B X σ Λ G H (f ρ) S fun xs _ Λ1 G1 H1 => ∀ J, WkP B J xs Λ1 G1 → R J H1) → t σ H R) : PI X tg e (tI B X f) :=
  ⟨fun pins s σ H R I ⟨Λ, G, H0, ρ, S, q⟩ => by
    obtain ⟨t, ht, k⟩ := h ρ S
    exact ht.run pins s σ H R I (k σ H R ⟨Λ, G, H0, q⟩)⟩
def itV : PV → M (List PV)
  | .lst xs => ret xs
  | .tup xs => ret xs
  | .str x => ret (x.cps.toList.map fun c => .str ⟨#[c]⟩)
  | _ => stuck
theorem si_val (ok : XOk B n N sc W X) (ha : SE B X false a fa) : SI B X tg a (fun ρ => bnd (fa ρ) itV) := by
  refine ⟨PI_pick fun ρ S => ?_, ha.gd⟩
  cases e : fa ρ S with
  | stk =>
    refine ⟨fun _ _ _ => False, ⟨fun _ _ _ _ _ _ z => z.elim⟩, fun σ H R ⟨Λ, G, H0, sr, er, h⟩ => ?_⟩
    unfold WP bnd at h
    rw [e] at h
    exact h
  | exc c fs S' =>
    refine ⟨_, pi_list ha.pe, fun σ H R ⟨Λ, G, H0, sr, er, h⟩ => ⟨Λ, G, H0, ρ, S, sr, er, ?_⟩⟩
    unfold WP bnd at h
    unfold WP
    rw [e] at h ⊢
    exact h
  | ok q =>
    obtain ⟨y, S1⟩ := q
    have key : ∀ {σ : L2.St} {H : Hp} {Λ : List Addr} {G : Hp} {K : KK (List PV)}, WP B X σ Λ G H (bnd (fa ρ) itV) S K → WP B X σ Λ G H (fa ρ) S fun z S1' Λ1 G1 H1 => z = y ∧ WP B X σ Λ1 G1 H1 (itV y) S1' K := fun {σ H Λ G K} h =>
      WP_imp (WP_bnd h) fun z S' Λ' G' H' e2 _ _ q => by
        rw [e] at e2; cases e2; exact ⟨rfl, q⟩
    cases y with
    | lst xs =>
      refine ⟨_, pi_list ha.pe, fun σ H R ⟨Λ, G, H0, sr, er, h⟩ => ⟨Λ, G, H0, ρ, S, sr, er, WP_imp (key h) fun z S1 Λ1 G1 H1 _ t1 s1 ⟨ez, h1⟩ v rv => ?_⟩⟩
      subst ez
      have r := rv.s
      simp only [Rep] at r
      obtain ⟨q, vs, rfl, h2, r2⟩ := r
      refine ⟨q, rfl, ⟨vs, SqL.of (s1.sub _ _ h2)⟩, ?_⟩
      rw [ok.K]
      exact WP_ret h1 _ _ _ .refl s1 _ (wk_list h2 r2)
    | tup xs =>
      refine ⟨_, pi_tup ha.pe, fun σ H R ⟨Λ, G, H0, sr, er, h⟩ => ⟨Λ, G, H0, ρ, S, sr, er, WP_imp (key h) fun z S1 Λ1 G1 H1 _ t1 s1 ⟨ez, h1⟩ v rv => ?_⟩⟩
      subst ez
      have r := rv.s
      simp only [Rep] at r
      obtain ⟨q, vs, rfl, h2, r2⟩ := r
      refine ⟨q, rfl, ⟨vs, by rw [ok.K]; exact sqT_mono s1.sub h2⟩, ?_⟩
      rw [ok.K]
      exact WP_ret h1 _ _ _ .refl s1 _ (wk_tup h2 r2)
    | str z =>
      refine ⟨_, pi_str ha.pe, fun σ H R ⟨Λ, G, H0, sr, er, h⟩ => ⟨Λ, G, H0, ρ, S, sr, er, WP_imp (key h) fun z S1 Λ1 G1 H1 _ t1 s1 ⟨ez, h1⟩ v rv => ?_⟩⟩
      subst ez
      exact ⟨_, rv.b.str, WP_ret h1 _ _ _ .refl s1 _ wk_str⟩
    | _ => exact ⟨_, pi_list ha.pe, fun σ H R ⟨Λ, G, H0, sr, er, h⟩ => ⟨Λ, G, H0, ρ, S, sr, er, WP_imp (key h) fun z S1 Λ1 G1 H1 _ t1 s1 ⟨ez, h1⟩ v rv => (WP_stuck h1).elim⟩⟩
theorem star1 (h : gd a = true) {env : PySem.Env} : starEach [a] env = [(false, eval a env)] := by rw [star_cons h]; rfl
theorem si_rng1 (ok : XOk B n N sc W X) (hg : sc.names.lookup ("range" : Str) = some .globalImplicit) (hm : B.L.mg "range" = none) (ha : SE B X false a fa) : SI B X tg (.Call (.Name "range" p) [a] [] pos) (fun ρ => bnd (fa ρ) fun x => match x with
    | .int j => if inR j then ret ((List.range j.toNat).map fun (i : Nat) => .int (i : Int)) else stuck
    | _ => stuck) := by
  refine ⟨PI_imp (pi_range1 (gl_of ok hg) (by rw [ok.mg]; exact hm) (pa_cons ha.pe pa_nil (star_cons ha.gd)) (star1 ha.gd)) fun σ H R ⟨Λ, G, H0, ρ, S, sr, er, h⟩ => ⟨Λ, G, H0, ρ, S, sr, er, WP_imp (WP_bnd h) fun y S1 Λ1 G1 H1 _ t1 s1 h1 v rv => ?_⟩, rfl⟩
  cases y with
  | int j =>
    dsimp only at h1
    split at h1
    · rename_i hj
      have hr := inR_ok hj
      refine ⟨j, by rw [rv.b.int], by omega, by omega, WP_ret h1 _ _ _ .refl s1 _ ?_⟩
      have w : WkP B (Itr 0 j.toNat) ((List.range j.toNat).map fun (i : Nat) => PV.int (0 + (i : Int))) Λ1 G1 := wk_range
      have e : (fun (i : Nat) => PV.int (0 + (i : Int))) = fun (i : Nat) => PV.int (i : Int) := funext fun i => by rw [Int.zero_add]
      rw [e] at w; exact w
    · exact (WP_stuck h1).elim
  | _ => exact (WP_stuck h1).elim
theorem si_rng2 (ok : XOk B n N sc W X) (hg : sc.names.lookup ("range" : Str) = some .globalImplicit) (hm : B.L.mg "range" = none) (ha : SE B X false a fa) (hb : SE B X false b fb) : SI B X tg (.Call (.Name "range" p) [a, b] [] pos) (fun ρ => bnd (fa ρ) fun x => bnd (fb ρ) fun y => match x, y with
    | .int i, .int j => if inR i && inR j then ret ((List.range (j - i).toNat).map fun (n : Nat) => .int (i + n)) else stuck
    | _, _ => stuck) := by
  refine ⟨PI_imp (pi_range2 (gl_of ok hg) (by rw [ok.mg]; exact hm) (pa_cons ha.pe (pa_cons hb.pe pa_nil (star_cons hb.gd)) (star_cons ha.gd)) (by rw [star_cons ha.gd, star1 hb.gd]) (star1 hb.gd)) fun σ H R ⟨Λ, G, H0, ρ, S, sr, er, h⟩ => ⟨Λ, G, H0, ρ, S, sr, er, WP_imp (WP_bnd h) fun y S1 Λ1 G1 H1 _ t1 s1 h1 v rv =>
    ⟨Λ1, G1, H0, ρ, S1, s1, er.step t1, WP_imp (WP_bnd h1) fun z S2 Λ2 G2 H2 _ t2 s2 h2 u ru => ?_⟩⟩, rfl⟩
  cases y with
  | int i =>
    cases z with
    | int j =>
      dsimp only at h2
      split at h2
      · rename_i hj
        rw [Bool.and_eq_true] at hj
        have hi := inR_ok hj.1
        have hr := inR_ok hj.2
        exact ⟨i, j, by rw [rv.b.int, ru.b.int], ⟨by omega, by omega, by omega, by omega⟩, WP_ret h2 _ _ _ .refl s2 _ wk_range⟩
      · exact (WP_stuck h2).elim
    | _ => exact (WP_stuck h2).elim
  | _ => exact (WP_stuck h2).elim
theorem si_zip (ok : XOk B n N sc W X) {ts : List Expr} {k : Nat} {tp : Pos} (hg : sc.names.lookup ("zip" : Str) = some .globalImplicit) (hm : B.L.mg "zip" = none) (ha : SE B X false a fa) (hb : SE B X false b fb) : SI B X (.Tuple ts k tp) (.Call (.Name "zip" p) [a, b] [] pos) (fun ρ => bnd (fa ρ) fun x => bnd (fb ρ) fun y => match x, y with
    | .lst xs, .lst ys => ret (List.zipWith (fun x y => .tup [x, y]) xs ys)
    | _, _ => stuck) := by
  refine ⟨PI_imp (pi_zip (gl_of ok hg) (by rw [ok.mg]; exact hm) (pa_cons ha.pe (pa_cons hb.pe pa_nil (star_cons hb.gd)) (star_cons ha.gd)) (star_cons ha.gd) (by rw [star1 hb.gd]; rfl)) fun σ H R ⟨Λ, G, H0, ρ, S, sr, er, h⟩ => ⟨Λ, G, H0, ρ, S, sr, er, WP_imp (WP_bnd h) fun y S1 Λ1 G1 H1 _ t1 s1 h1 v rv =>
    ⟨Λ1, G1, H0, ρ, S1, s1, er.step t1, WP_imp (WP_bnd h1) fun z S2 Λ2 G2 H2 _ t2 s2 h2 u ru => ?_⟩⟩, rfl⟩
  cases y with
  | lst xs =>
    cases z with
    | lst ys =>
      have r := Rep.mono t2.g t2.pre _ _ rv.s
      have r' := ru.s
      simp only [Rep] at r r'
      obtain ⟨q, vs, rfl, h3, r3⟩ := r
      obtain ⟨q', ws, rfl, h4, r4⟩ := r'
      refine ⟨q, q', vs, ws, rfl, SqL.of (s2.sub _ _ h3), SqL.of (s2.sub _ _ h4), ?_⟩
      rw [ok.K]
      exact WP_ret h2 _ _ _ .refl s2 _ (wk_zip h3 h4 r3 r4)
    | _ => exact (WP_stuck h2).elim
  | _ => exact (WP_stuck h2).elim
theorem si_enum (ok : XOk B n N sc W X) {ts : List Expr} {k : Nat} {tp : Pos} (hg : sc.names.lookup ("enumerate" : Str) = some .globalImplicit) (hm : B.L.mg "enumerate" = none) (ha : SE B X false a fa) : SI B X (.Tuple ts k tp) (.Call (.Name "enumerate" p) [a] [] pos) (fun ρ => bnd (fa ρ) fun x => match x with
    | .lst xs => ret (xs.zipIdx.map fun p => .tup [.int (p.2 : Int), p.1])
    | _ => stuck) := by
  refine ⟨PI_imp (pi_enum (gl_of ok hg) (by rw [ok.mg]; exact hm) (pa_cons ha.pe pa_nil (star_cons ha.gd)) (star1 ha.gd)) fun σ H R ⟨Λ, G, H0, ρ, S, sr, er, h⟩ => ⟨Λ, G, H0, ρ, S, sr, er, WP_imp (WP_bnd h) fun y S1 Λ1 G1 H1 _ t1 s1 h1 v rv => ?_⟩, rfl⟩
  cases y with
  | lst xs =>
    have r := rv.s
    simp only [Rep] at r
    obtain ⟨q, vs, rfl, h3, r3⟩ := r
    refine ⟨q, vs, rfl, SqL.of (s1.sub _ _ h3), ?_⟩
    rw [ok.K]
    exact WP_ret h1 _ _ _ .refl s1 _ (wk_enum h3 r3)
  | _ => exact (WP_stuck h1).elim
end
end PF

set_option linter.all false
set_option maxRecDepth 100000
namespace PF
open PySem PySem.Spec PyProof.Rows L2

/-! ### readings where nothing is raised -/
def tE0 (B : Env1) (b : Bool) (f : Env → M PV) : TE := fun σ H Q => ∃ Λ G H0 ρ S x S', SR B.L Λ G H S ∧ ER B.L Λ G H H0 σ ρ ∧ f ρ S = .ok (x, S') ∧ ∀ Λ' G' H', Stp Λ G H Λ' G' H' → SR B.L Λ' G' H' S' → ∀ v, RX B.L b Λ' G' H' x v → Q v H'
def tT0 (B : Env1) (f : Env → M Bool) : TT := fun σ H Q => ∃ Λ G H0 ρ S k S', SR B.L Λ G H S ∧ ER B.L Λ G H H0 σ ρ ∧ f ρ S = .ok (k, S') ∧ ∀ Λ' G' H', Stp Λ G H Λ' G' H' → SR B.L Λ' G' H' S' → Q k H'
section
variable {B : Env1} {X : Cx} {n : Nat} {N W W' : List Str} {sc : Scope} {a e tg : Expr} {fa : Env → M PV} {ba : Bool}
theorem WP_of_ok {α : Type} {σ : L2.St} {Λ : List Addr} {G H : Hp} {m : M α} {S S' : Sto} {x : α} {K : KK α} (h : m S = .ok (x, S')) (k : ∀ Λ' G' H', Stp Λ G H Λ' G' H' → SR B.L Λ' G' H' S' → K x S' Λ' G' H') : WP B X σ Λ G H m S K := by
  unfold WP; rw [h]; exact k
theorem pe0 (h : SE B X ba a fa) : PE X a (tE0 B ba fa) := PE_imp h.pe fun σ H Q ⟨Λ, G, H0, ρ, S, x, S', sr, er, e, k⟩ => ⟨Λ, G, H0, ρ, S, sr, er, WP_of_ok e k⟩
theorem pt0 {f : Env → M Bool} (h : PT X a (tT B X f)) : PT X a (tT0 B f) := PT_imp h fun σ H Q ⟨Λ, G, H0, ρ, S, x, S', sr, er, e, k⟩ => ⟨Λ, G, H0, ρ, S, sr, er, WP_of_ok e k⟩
theorem XOk.blk {scope : Scope} (ok : XOk B n N sc W X) (hw : ∀ x ∈ W', L2.Loc (relS scope sc) x ∧ ((scope.names.lookup x == some .cell) = true ∨ (relS scope sc).names.lookup x = some .local)) (s : Shared) (H : Hp) (C : Addr) (cl : List (Str × Addr)) (fp : List Addr) :
    XOk B n N (relS scope sc) W' (X.blk s H scope (compEnvC scope cl C X.env) fp) :=
  ⟨ok.prog, ok.w, ok.K, ok.mg, ok.base, ok.nN, ok.nd, by rw [← ok.nsc]; rfl, ok.calm, ok.room, ok.gu, .never, hw⟩

/-! ### targets of the text -/
structure STg (X : Cx) (tg : Expr) (t : Tgt) : Prop where
  pg : PG X tg (gT X.K t)
theorem stg_nm (ok : XOk B n N sc W X) {i : Nat} {x : Str} {p : Pos} (hi : N[i]? = some x) (hw : x ∈ W) : STg X (.Name x p) (.nm i) := by
  obtain ⟨h1, h2⟩ := ok.st x hw
  refine ⟨pg_name (by rw [ok.nN]; exact ok.nd) (by rw [ok.nN]; exact hi) (by rw [ok.nsc]; exact h1) (by rw [ok.nsc]; exact h2)⟩
/-- names, one behind another -/
def nmIs (N W : List Str) : List Expr → Option (List Nat)
  | [] => some []
  | .Name x _ :: r => match decide (x ∈ W), N.idxOf? x, nmIs N W r with
    | true, some i, some is => some (i :: is)
    | _, _, _ => none
  | _ => none
theorem nms_ok (ok : XOk B n N sc W X) : ∀ {es : List Expr} {is : List Nat}, nmIs N W es = some is → PGs X es (gNs is) ∧ (assignEach es X.env).length = is.length ∧ (assignEach es X.env).findIdx? (·.1) = none
  | [], is, h => by cases h; exact ⟨pgs_nil, rfl, rfl⟩
  | .Name x p :: r, is, h => by
    unfold nmIs at h
    split at h
    · rename_i i js hw hi hr
      cases h
      obtain ⟨a, b, c⟩ := nms_ok ok hr
      have hi2 : N[i]? = some x := by
        obtain ⟨h1, h2, _⟩ := List.idxOf?_eq_some_iff.mp hi
        exact List.getElem?_eq_some_iff.mpr ⟨h1, by simpa using h2⟩
      refine ⟨pgs_cons (stg_nm ok hi2 (of_decide_eq_true hw)).pg a rfl, congrArg Nat.succ b, ?_⟩
      show List.findIdx? (·.1) ((false, assign (.Name x p) X.env) :: assignEach r X.env) = none
      rw [List.findIdx?_cons]
      simp only [Bool.false_eq_true, if_false, c, Option.map_none]
    · cases h
  | .BoolOp .. :: _, _, h => by cases h
  | .NamedExpr .. :: _, _, h => by cases h
  | .BinOp .. :: _, _, h => by cases h
  | .UnaryOp .. :: _, _, h => by cases h
  | .Lambda .. :: _, _, h => by cases h
  | .IfExp .. :: _, _, h => by cases h
  | .Dict .. :: _, _, h => by cases h
  | .Set .. :: _, _, h => by cases h
  | .ListComp .. :: _, _, h => by cases h
  | .SetComp .. :: _, _, h => by cases h
  | .DictComp .. :: _, _, h => by cases h
  | .GeneratorExp .. :: _, _, h => by cases h
  | .Await .. :: _, _, h => by cases h
  | .Yield .. :: _, _, h => by cases h
  | .YieldFrom .. :: _, _, h => by cases h
  | .Compare .. :: _, _, h => by cases h
  | .Call .. :: _, _, h => by cases h
  | .FormattedValue .. :: _, _, h => by cases h
  | .JoinedStr .. :: _, _, h => by cases h
  | .Constant .. :: _, _, h => by cases h
  | .Attribute .. :: _, _, h => by cases h
  | .Subscript .. :: _, _, h => by cases h
  | .Starred .. :: _, _, h => by cases h
  | .List .. :: _, _, h => by cases h
  | .Tuple .. :: _, _, h => by cases h
  | .Slice .. :: _, _, h => by cases h
def tgOf (N W : List Str) : Expr → Option Tgt
  | .Name x _ => match decide (x ∈ W), N.idxOf? x with
    | true, some i => some (.nm i)
    | _, _ => none
  | .Tuple es _ _ => (nmIs N W es).map .tp
  | _ => none
theorem tg_ok (ok : XOk B n N sc W X) {t : Tgt} (h : tgOf N W tg = some t) : STg X tg t := by
  unfold tgOf at h
  split at h
  · rename_i x p
    split at h
    · rename_i i hw hi
      cases h
      refine stg_nm ok ?_ (of_decide_eq_true hw)
      obtain ⟨h1, h2, _⟩ := List.idxOf?_eq_some_iff.mp hi
      exact List.getElem?_eq_some_iff.mpr ⟨h1, by simpa using h2⟩
    · cases h
  · obtain ⟨is, h1, h2⟩ := Option.map_eq_some_iff.mp h
    cases h2
    obtain ⟨a, b, c⟩ := nms_ok ok h1
    exact ⟨pg_tup ok.calm a b c⟩
  · cases h

/-! ### list comprehensions -/
def lcF (tg : Tgt) (vs : List Nat) (fc : Env → M Bool) (fe : Env → M PV) (ρ : Env) : PV → M (Option PV) := fun x =>
  bnd (opt (asgT tg x (wipeE ρ vs))) fun ρ' => noExc (bnd (fc ρ') fun k => if k then bnd (fe ρ') fun y => ret (some y) else ret none)
theorem noExc_ne {α : Type} {m : M α} {S : Sto} (c : Nat) (fs : List PV) (S' : Sto) : noExc m S ≠ .exc c fs S' := by
  unfold noExc
  split <;> exact fun z => nomatch z
theorem lcF_ne {t : Tgt} {vs : List Nat} {fc : Env → M Bool} {fe : Env → M PV} {ρ : Env} {x : PV} {S : Sto} (c : Nat) (fs : List PV) (S' : Sto) : lcF t vs fc fe ρ x S ≠ .exc c fs S' := by
  unfold lcF bnd
  cases asgT t x (wipeE ρ vs) with
  | none => exact fun z => nomatch z
  | some ρ' =>
    simp only [opt, ret, Out.bnd]
    exact noExc_ne _ _ _
theorem lcL_ne {F : PV → M (Option PV)} (hF : ∀ x S c fs S', F x S ≠ .exc c fs S') : ∀ (xs : List PV) (S : Sto) (c : Nat) (fs : List PV) (S' : Sto), lcL F xs S ≠ .exc c fs S'
  | [], S, c, fs, S' => fun z => nomatch z
  | x :: xs, S, c, fs, S' => by
    unfold lcL bnd
    cases e : F x S with
    | stk => exact fun z => nomatch z
    | exc c fs S' => exact absurd e (hF _ _ _ _ _)
    | ok p =>
      obtain ⟨y, S1⟩ := p
      show Out.bnd (lcL F xs S1) _ ≠ _
      cases e2 : lcL F xs S1 with
      | stk => exact fun z => nomatch z
      | exc c fs S' => exact absurd e2 (lcL_ne hF _ _ _ _ _)
      | ok p => exact fun z => nomatch z
theorem noExc_ok {α : Type} {m : M α} {S S' : Sto} {x : α} (h : noExc m S = .ok (x, S')) : m S = .ok (x, S') := by
  unfold noExc at h
  cases e : m S with
  | ok p => rw [e] at h; exact h
  | exc c fs S1 => rw [e] at h; cases h
  | stk => rw [e] at h; cases h
def consO (o : Option PV) (l : List PV) : List PV := match o with
  | some y => y :: l
  | none => l
theorem snd_lc (ok : XOk B n N sc W X) {elt iter : Expr} {ifs : List Expr} {scope : Scope} {own : List (Str × Nat)} {pos : Pos} {fI : Env → M (List PV)} {fc : Env → M Bool} {fe : Env → M PV} {t : Tgt}
    (hi : SI B X tg iter fI) (hb : blkC N sc scope own = true) (hv : (tgIs t).all (fun i => (own.map (·.2)).contains i) = true)
    (ht : ∀ (s : Shared) (H : Hp) (C : Addr) (cl : List (Str × Addr)) (fp : List Addr), STg (X.blk s H scope (compEnvC scope cl C X.env) fp) tg t)
    (hc : ∀ (s : Shared) (H : Hp) (C : Addr) (cl : List (Str × Addr)) (fp : List Addr), PTs (X.blk s H scope (compEnvC scope cl C X.env) fp) ifs (tT0 B fc))
    (he : ∀ (s : Shared) (H : Hp) (C : Addr) (cl : List (Str × Addr)) (fp : List Addr), PE (X.blk s H scope (compEnvC scope cl C X.env) fp) elt (tE0 B false fe)) :
    ∃ wi g tt te, PI X tg iter wi ∧ BlkOk X.N X.env.scope scope own ∧ (∀ s H C cl fp, PG (X.blk s H scope (compEnvC scope cl C X.env) fp) tg g) ∧ (∀ s H C cl fp, PTs (X.blk s H scope (compEnvC scope cl C X.env) fp) ifs tt) ∧ (∀ s H C cl fp, PE (X.blk s H scope (compEnvC scope cl C X.env) fp) elt te) ∧
    (∀ σ H Q, tF B X (fun ρ => bnd (fI ρ) fun xs => if xs.length ≤ line then bnd (lcL (lcF t (own.map (·.2)) fc fe ρ) xs) fun ys => ret (.lst ys) else stuck) σ H Q → tLc wi g tt te (own.map (·.2)) σ H Q) := by
  have kk : ∀ s H C cl fp, (X.blk s H scope (compEnvC scope cl C X.env) fp).K = B.L.K := fun _ _ _ _ _ => ok.K
  refine ⟨tI B X fI, gT B.L.K t, tT0 B fc, tE0 B false fe, hi.pi, by rw [ok.nN, ok.nsc]; exact blkOk_by hb, fun s H C cl fp => by have := (ht s H C cl fp).pg; rw [kk] at this; exact this, hc, he, fun σ H Q h => ?_⟩
  obtain ⟨Λ, G, H0, ρ, S, sr, er, h⟩ := h
  generalize hvs : own.map (·.2) = vs at *
  refine ⟨Λ, G, H0, ρ, S, sr, er, WP_imp (WP_bnd h) fun xs S1 Λ1 G1 H1 _ t1 s1 h1 J wk D hD => ?_⟩
  split at h1
  case isFalse => exact (WP_stuck h1).elim
  rename_i hl
  have h2 := WP_bnd h1
  generalize hF : lcF t vs fc fe ρ = F at h2
  have hne : ∀ x S c fs S', F x S ≠ .exc c fs S' := by subst hF; exact fun _ _ => lcF_ne
  obtain ⟨ys, Sf, eF, kF⟩ := WP_ok h2 (lcL_ne hne xs S1)
  obtain ⟨Gd, Y, wlk, hGd, hY⟩ := wk.ex
  have D0 : H D = none := t1.th D hD
  refine lc_it wlk (fun i Hc => ∃ Λc Gc Sc acP acc ys', Stp Λ1 G1 H1 Λc Gc Hc ∧ SR B.L Λc Gc Hc Sc ∧ Hc D = some (.lst acc) ∧ RepL B.L Λc Gc acP acc ∧ Gc D = none ∧ D ∉ Λc ∧ acc.length ≤ i ∧ lcL F (xs.drop i) Sc = .ok (ys', Sf) ∧ ys = acP ++ ys')
    ⟨Λ1, G1, S1, [], [], ys, .laidO hD, s1.laidO hD, upd_same, repL_nil, s1.sub.none hD, fun z => s1.ne hD z rfl, Nat.le_refl _, by simpa using eF, rfl⟩
    (fun i Hc _ ⟨Λc, Gc, Sc, acP, acc, ys', st, src, _⟩ => hGd Gc Hc st.g src.sub) ?_ ?_
  · rintro i x Hc H' hlt ⟨Λc, Gc, Sc, acP, acc, ys', st, src, hDc, ra, gD, lD, la, eL, ey⟩ y
    obtain ⟨G2, px, ep, st2, sr2, rx⟩ := hY i Hc x H' Λc Gc Sc hlt st.g st.pre src y
    have ed : xs.drop i = px :: xs.drop (i + 1) := by
      rw [List.drop_eq_getElem_cons hlt]
      have : xs[i] = px := by rw [List.getElem?_eq_getElem hlt] at ep; exact Option.some.inj ep
      rw [this]
    rw [ed] at eL
    unfold lcL at eL
    obtain ⟨yo, Sd, eF1, eL2⟩ := bnd_ok eL
    obtain ⟨ys2, Se, eL3, eL4⟩ := bnd_ok eL2
    cases eL4
    subst hF
    unfold lcF at eF1
    obtain ⟨ρ', So, eo, eF2⟩ := bnd_ok eF1
    obtain ⟨eo1, eo2⟩ := opt_ok eo
    subst eo2
    obtain ⟨k, Sk, ek, eF3⟩ := bnd_ok (noExc_ok eF2)
    have er2 : ER B.L Λc G2 H' H0 (wipe σ vs) (wipeE ρ vs) := ((((er.step t1).step st).step st2)).wipe vs
    refine asgT_ok sr2.sub eo1 rx er2 fun σ2 er3 hset => ⟨wipe_setT hset fun j hj => ?_, ?_⟩
    · have := List.all_eq_true.mp hv j hj
      simpa using this
    · refine ⟨Λc, G2, H0, ρ', So, k, Sk, sr2, er3, ek, fun Λ3 G3 H3 st3 sr3 => ?_⟩
      have hD2 := st2.keep D _ hDc lD
      have gD2 := st2.outG hDc gD
      have hD3 := st3.keep D _ hD2 lD
      have gD3 := st3.outG hD2 gD2
      have lD3 := st3.outL hD2 lD
      cases k with
      | false =>
        rw [if_neg Bool.false_ne_true] at eF3
        refine (if_neg Bool.false_ne_true).mpr ?_
        cases eF3
        exact ⟨Λ3, G3, Sd, acP, acc, ys2, (st.trans st2).trans st3, sr3, hD3, (ra.mono st2.g st2.pre).mono st3.g st3.pre, gD3, lD3, by omega, eL3, ey⟩
      | true =>
        rw [if_pos rfl] at eF3
        refine (if_pos rfl).mpr ?_
        obtain ⟨z, Sz, ez, eF4⟩ := bnd_ok eF3
        cases eF4
        refine ⟨Λ3, G3, H0, ρ', Sk, z, Sd, sr3, er3.step st3, ez, fun Λ4 G4 H4 st4 sr4 v rv => ?_⟩
        have hD4 := st4.keep D _ hD3 lD3
        have gD4 := st4.outG hD3 gD3
        have lD4 := st4.outL hD3 lD3
        refine ⟨acc, hD4, ?_, ?_⟩
        · have := line_eq; omega
        · refine ⟨Λ4, G4, Sd, acP ++ [z], acc ++ [v], ys2, ⟨((st.trans st2).trans (st3.trans st4)).g, fun b o hb nb => ?_, fun b hb => ?_, ((st.trans st2).trans (st3.trans st4)).fr, ((st.trans st2).trans (st3.trans st4)).ext⟩, sr4.chg gD4 lD4, upd_same,
            (((ra.mono st2.g st2.pre).mono st3.g st3.pre).mono st4.g st4.pre).app (repL_cons rv.s repL_nil), gD4, lD4, by rw [List.length_append]; simp; omega, eL3, by rw [ey, List.append_assoc]; rfl⟩
          · have ne : b ≠ D := fun e => by rw [e, hD] at hb; cases hb
            rw [upd_ne ne]
            exact ((st.trans st2).trans (st3.trans st4)).keep b o hb nb
          · by_cases e : b = D
            · rw [e]; exact hD
            · rw [upd_ne e] at hb
              exact ((st.trans st2).trans (st3.trans st4)).th b hb
  · rintro Hc ⟨Λc, Gc, Sc, acP, acc, ys', st, src, hDc, ra, gD, lD, la, eL, ey⟩
    rw [List.drop_length] at eL
    cases eL
    rw [List.append_nil] at ey
    subst ey
    have k2 := kF Λc Gc Hc st src
    exact WP_ret k2 Λc Gc Hc .refl src ys D acc rfl D0 hDc ra gD lD
end
end PF

set_option linter.all false
set_option maxRecDepth 100000
namespace PF
open PySem PySem.Spec PyProof.Rows L2

/-- a moment within a body that was entered at Λ0, G0, H0 -/
structure At (B : Env1) (Λ0 : List Addr) (G0 : Hp) (H0 : Ent) (Λ : List Addr) (G H : Hp) (σ : L2.St) (ρ : Env) (S : Sto) : Prop where
  st : Stp Λ0 G0 H0 Λ G H
  sr : SR B.L Λ G H S
  er : ER B.L Λ G H H0 σ ρ
structure Grow (Λ : List Addr) (G : Hp) (Λ' : List Addr) (G' : Hp) : Prop where
  g : Sub G G'
  p : Pre Λ Λ'
theorem Grow.refl {Λ : List Addr} {G : Hp} : Grow Λ G Λ G := ⟨.refl, [], by simp⟩
theorem Pre.trans {a b c : List Addr} (h : Pre a b) (k : Pre b c) : Pre a c := by
  obtain ⟨x, rfl⟩ := h
  obtain ⟨y, rfl⟩ := k
  exact ⟨x ++ y, by rw [List.append_assoc]⟩
theorem Grow.trans {Λ Λ1 Λ2 : List Addr} {G G1 G2 : Hp} (a : Grow Λ G Λ1 G1) (b : Grow Λ1 G1 Λ2 G2) : Grow Λ G Λ2 G2 := ⟨a.g.trans b.g, a.p.trans b.p⟩
theorem Stp.grow {Λ Λ1 : List Addr} {G H G1 H1 : Hp} (t : Stp Λ G H Λ1 G1 H1) : Grow Λ G Λ1 G1 := ⟨t.g, t.pre⟩
/-- what is wished for behind a statement -/
def Cnt (B : Env1) (X : Cx) (D : Ends) (Λ0 : List Addr) (G0 : Hp) (H0 : Ent) (Λ : List Addr) (G : Hp) : Res → Prop
  | .nxt ρ S => ∀ σ' Λ' G' H', Grow Λ G Λ' G' → At B Λ0 G0 H0 Λ' G' H' σ' ρ S → D.nx σ' H'
  | .brk ρ S => ∀ σ' Λ' G' H', Grow Λ G Λ' G' → At B Λ0 G0 H0 Λ' G' H' σ' ρ S → D.bk σ' H'
  | .cnt ρ S => ∀ σ' Λ' G' H', Grow Λ G Λ' G' → At B Λ0 G0 H0 Λ' G' H' σ' ρ S → D.ct σ' H'
  | .ret v S => ∀ Λ' G' H', Grow Λ G Λ' G' → Stp Λ0 G0 H0 Λ' G' H' → SR B.L Λ' G' H' S → ∀ u, Rep B.L Λ' G' v u → D.rt u H'
  | .exc c fs ρ S => ∀ σ' cls d Λ' G' H', Grow Λ G Λ' G' → At B Λ0 G0 H0 Λ' G' H' σ' ρ S → ExR B.L B.xf c fs Λ' G' cls d → EX X σ' cls d H'
  | .stk => False
theorem Cnt.grow {B : Env1} {X : Cx} {D : Ends} {Λ0 : List Addr} {G0 : Hp} {H0 : Ent} {Λ Λ1 : List Addr} {G G1 : Hp} {r : Res} (h : Cnt B X D Λ0 G0 H0 Λ G r) (g : Grow Λ G Λ1 G1) : Cnt B X D Λ0 G0 H0 Λ1 G1 r := by
  cases r with
  | nxt ρ S => exact fun σ' Λ' G' H' k => h σ' Λ' G' H' (g.trans k)
  | brk ρ S => exact fun σ' Λ' G' H' k => h σ' Λ' G' H' (g.trans k)
  | cnt ρ S => exact fun σ' Λ' G' H' k => h σ' Λ' G' H' (g.trans k)
  | ret v S => exact fun Λ' G' H' k => h Λ' G' H' (g.trans k)
  | exc c fs ρ S => exact fun σ' cls d Λ' G' H' k => h σ' cls d Λ' G' H' (g.trans k)
  | stk => exact h
abbrev FS := Env → Sto → Res
def tS (B : Env1) (X : Cx) (f : FS) : TS := fun D σ H => ∃ Λ0 G0 H0 Λ G ρ S, At B Λ0 G0 H0 Λ G H σ ρ S ∧ Cnt B X D Λ0 G0 H0 Λ G (f ρ S)

section
variable {B : Env1} {X : Cx} {n : Nat} {N W : List Str} {sc : Scope} {Λ0 Λ : List Addr} {G0 G H : Hp} {H0 : Ent} {σ : L2.St} {ρ : Env} {S : Sto} {D : Ends} {st : Stmt} {sts : List Stmt} {f g : FS} {a b c e : Expr} {fa fb : Env → M PV} {pos : Pos}
theorem At.step {Λ1 : List Addr} {G1 H1 : Hp} {S1 : Sto} (m : At B Λ0 G0 H0 Λ G H σ ρ S) (t : Stp Λ G H Λ1 G1 H1) (s : SR B.L Λ1 G1 H1 S1) : At B Λ0 G0 H0 Λ1 G1 H1 σ ρ S1 := ⟨m.st.trans t, s, m.er.step t⟩
/-- an expression at the statement's head -/
theorem thn_WP {α : Type} {m : M α} {k : α → Sto → Res} (mo : At B Λ0 G0 H0 Λ G H σ ρ S) (h : Cnt B X D Λ0 G0 H0 Λ G (thn m ρ S k)) : WP B X σ Λ G H m S fun a S' Λ1 G1 H1 => Cnt B X D Λ0 G0 H0 Λ1 G1 (k a S') := by
  unfold thn at h
  unfold WP
  cases q : m S with
  | stk => rw [q] at h; exact h
  | exc c fs S' => rw [q] at h; exact fun cls d Λ' G' H' t s x => h σ cls d Λ' G' H' t.grow (mo.step t s) x
  | ok p => rw [q] at h; exact fun Λ' G' H' t s => Cnt.grow h t.grow

/-! ### rows -/
theorem ss_nil : PSs X [] (tS B X fun ρ S => .nxt ρ S) := PSs_imp pss_nil fun D σ H ⟨Λ0, G0, H0, Λ, G, ρ, S, m, h⟩ => h σ Λ G H .refl m
def seqF (f g : FS) : FS := fun ρ S => match f ρ S with
  | .nxt ρ S => g ρ S
  | r => r
theorem ss_cons (h1 : PS X st (tS B X f)) (h2 : PSs X sts (tS B X g)) : PSs X (st :: sts) (tS B X (seqF f g)) := by
  refine PSs_imp (pss_cons h1 h2) fun D σ H ⟨Λ0, G0, H0, Λ, G, ρ, S, m, h⟩ => ⟨Λ0, G0, H0, Λ, G, ρ, S, m, ?_⟩
  unfold seqF at h
  cases q : f ρ S with
  | nxt ρ' S' => rw [q] at h; exact fun σ' Λ' G' H' gr m' => ⟨Λ0, G0, H0, Λ', G', ρ', S', m', Cnt.grow h gr⟩
  | brk ρ' S' => rw [q] at h; exact h
  | cnt ρ' S' => rw [q] at h; exact h
  | ret v S' => rw [q] at h; exact h
  | exc c fs ρ' S' => rw [q] at h; exact h
  | stk => rw [q] at h; exact h

/-! ### freezing -/
theorem frz_own {i : Nat} {p : Addr} {o : HO} {s : Sl} {x : PV} (m : At B Λ0 G0 H0 Λ G H σ ρ S) (hi : ρ[i]? = some s) (ho : isOwn s = true) (hs : σ[i]? = some (some (.ref p))) (hH : H p = some o) (hg : G p = none) (hl : p ∉ Λ) (h0 : H0 p = none)
    (r : Rep B.L Λ (upd G p o) x (.ref p)) : At B Λ0 G0 H0 Λ (upd G p o) H σ (ρ.set i (.val x)) S := by
  have il := (List.getElem?_eq_some_iff.mp hi).1
  refine ⟨⟨m.st.g.trans (Sub.upd hg), m.st.keep, m.st.th, fun b u q => ?_, m.st.ext⟩, m.sr.frz hH hg hl, ⟨by rw [List.length_set]; exact m.er.len, fun j s' v h1 h2 => ?_, fun j k s1 s2 b1 b2 ne h1 h2 o1 o2 h3 h4 => ?_⟩⟩
  · by_cases e : b = p
    · rw [e]; exact .inr h0
    · rw [upd_ne e] at q; exact m.st.fr b u q
  · by_cases e : i = j
    · subst e
      rw [List.getElem?_set_self il] at h1
      cases h1
      rw [hs] at h2
      cases h2
      exact ⟨_, rfl, r⟩
    · rw [List.getElem?_set_ne e] at h1
      have q := m.er.at_ j s' v h1 h2
      cases s' with
      | emp => trivial
      | val y =>
        obtain ⟨w, e1, e2⟩ := q
        exact ⟨w, e1, e2.mono (Sub.upd hg) ⟨[], by simp⟩⟩
      | own ys =>
        obtain ⟨a2, vs, e1, e2, e3, e4, e5, e6⟩ := q
        subst e1
        have ne := m.er.dis i j s _ p a2 e hi h1 ho rfl hs h2
        exact ⟨a2, vs, rfl, e2, e3.mono (Sub.upd hg) ⟨[], by simp⟩, by rw [upd_ne (Ne.symm ne)]; exact e4, e5, e6⟩
      | obj c ns ys =>
        obtain ⟨a2, dx, vs, e1, e2, el, e3, e4, e5, e6⟩ := q
        subst e1
        have ne := m.er.dis i j s _ p a2 e hi h1 ho rfl hs h2
        exact ⟨a2, dx, vs, rfl, e2, el, e3.mono (Sub.upd hg) ⟨[], by simp⟩, by rw [upd_ne (Ne.symm ne)]; exact e4, e5, e6⟩
  · have go : ∀ {j : Nat} {s : Sl}, (ρ.set i (.val x))[j]? = some s → isOwn s = true → ρ[j]? = some s := fun {j s} q z => by
      by_cases e : i = j
      · subst e
        rw [List.getElem?_set_self il] at q
        cases q; cases z
      · rw [List.getElem?_set_ne e] at q; exact q
    exact m.er.dis j k s1 s2 b1 b2 ne (go h1 o1) (go h2 o2) o1 o2 h3 h4
theorem frz1 (m : At B Λ0 G0 H0 Λ G H σ ρ S) (i : Nat) : ∃ G', Sub G G' ∧ At B Λ0 G0 H0 Λ G' H σ (frzE ρ [i]) S := by
  show ∃ G', Sub G G' ∧ At B Λ0 G0 H0 Λ G' H σ (match ρ[i]? with
    | some (.own xs) => ρ.set i (.val (.lst xs))
    | some (.obj c ns xs) => ρ.set i (.val (.ins c ns xs))
    | _ => ρ) S
  split
  · rename_i xs e
    obtain ⟨o, h1, p, vs, rfl, h2, r, h3, h4, h5⟩ := m.er.get e
    exact ⟨_, Sub.upd h3, frz_own m e rfl h1 h2 h3 h4 h5 (rep_lst r h3)⟩
  · rename_i c ns xs e
    obtain ⟨o, h1, p, dx, vs, rfl, h2, hl, r, h3, h4, h5⟩ := m.er.get e
    refine ⟨_, Sub.upd h3, frz_own m e rfl h1 h2 h3 h4 h5.1 ?_⟩
    simp only [Rep]
    exact ⟨p, dx, vs, rfl, upd_same, hl, r.mono (Sub.upd h3) ⟨[], by simp⟩⟩
  · exact ⟨G, .refl, m⟩
theorem frz_all : ∀ (is : List Nat) {G : Hp} {ρ : Env}, At B Λ0 G0 H0 Λ G H σ ρ S → ∃ G', Sub G G' ∧ At B Λ0 G0 H0 Λ G' H σ (frzE ρ is) S
  | [], G, ρ, m => ⟨G, .refl, m⟩
  | i :: is, G, ρ, m => by
    obtain ⟨G1, s1, m1⟩ := frz1 m i
    obtain ⟨G2, s2, m2⟩ := frz_all is m1
    exact ⟨G2, s1.trans s2, m2⟩
/-- what is frozen ahead of the rows -/
theorem ss_frz {is : List Nat} (h : PSs X sts (tS B X f)) : PSs X sts (tS B X fun ρ S => f (frzE ρ is) S) :=
  PSs_imp h fun D σ H ⟨Λ0, G0, H0, Λ, G, ρ, S, m, k⟩ => by
    obtain ⟨G', s, m'⟩ := frz_all is m
    exact ⟨Λ0, G0, H0, Λ, G', _, S, m', Cnt.grow k ⟨s, [], by simp⟩⟩

/-! ### what a name gets -/
def NewV (B : Env1) (o : Bool) (Hs : Hp) (Λ : List Addr) (G H : Hp) (x : PV) (v : V) : Prop :=
  if o then ∃ xs a vs, x = .lst xs ∧ v = .ref a ∧ Hs a = none ∧ H a = some (.lst vs) ∧ RepL B.L Λ G xs vs ∧ G a = none ∧ a ∉ Λ else Rep B.L Λ G x v
theorem NewV.step {o : Bool} {Hs : Hp} {x : PV} {v : V} {Λ1 : List Addr} {G1 H1 : Hp} (h : NewV B o Hs Λ G H x v) (t : Stp Λ G H Λ1 G1 H1) : NewV B o Hs Λ1 G1 H1 x v := by
  unfold NewV at *
  cases o with
  | false => exact Rep.mono t.g t.pre _ _ h
  | true =>
    obtain ⟨xs, a, vs, e1, e2, e3, e4, e5, e6, e7⟩ := h
    exact ⟨xs, a, vs, e1, e2, e3, t.keep _ _ e4 e7, e5.mono t.g t.pre, t.outG e4 e6, t.outL e4 e7⟩
/-- an expression whose value a slot gets -/
structure SN (B : Env1) (X : Cx) (o : Bool) (e : Expr) (f : Env → M PV) : Prop where
  pe : PE X e fun σ H Q => ∃ Λ G H0 ρ S, SR B.L Λ G H S ∧ ER B.L Λ G H H0 σ ρ ∧ WP B X σ Λ G H (f ρ) S fun x _ Λ' G' H' => ∀ v, NewV B o H Λ' G' H' x v → Q v H'
  gd : gd e = true
theorem SE.sn (h : SE B X false a fa) : SN B X false a fa := ⟨h.pe, h.gd⟩
theorem SF.sn (h : SF B X a fa) : SN B X true a fa := by
  refine ⟨PE_imp h.pe fun σ H Q ⟨Λ, G, H0, ρ, S, sr, er, k⟩ => ⟨Λ, G, H0, ρ, S, sr, er, WP_imp k fun x S' Λ' G' H' _ t s q xs a vs e1 e2 e3 e4 e5 e6 => q _ ?_⟩, h.gd⟩
  unfold NewV
  rw [if_pos rfl]
  exact ⟨xs, a, vs, e1, rfl, e2, e3, e4, e5, e6⟩
/-- a slot gets it -/
theorem At.put {o : Bool} {Hs : Hp} {Λs : List Addr} {Gs : Hp} {x : PV} {v : V} {s : Sl} (m : At B Λ0 G0 H0 Λ G H σ ρ S) (ms : ER B.L Λs Gs Hs H0 σ ρ) (h0 : Stp Λ0 G0 H0 Λs Gs Hs) (h : NewV B o Hs Λ G H x v) (hs : slOf o x = some s) (i : Nat) :
    At B Λ0 G0 H0 Λ G H (σ.set i (some v)) (ρ.set i s) S := by
  unfold NewV at h
  unfold slOf at hs
  cases o with
  | false =>
    cases hs
    exact ⟨m.st, m.sr, m.er.set i h⟩
  | true =>
    rw [if_pos rfl] at h hs
    obtain ⟨xs, a, vs, rfl, rfl, e3, e4, e5, e6, e7⟩ := h
    cases hs
    refine ⟨m.st, m.sr, m.er.setO i ⟨a, vs, rfl, e4, e5, e6, e7, h0.th a e3⟩ fun j t b ne h1 h2 h3 => ?_⟩
    intro e
    subst e
    obtain ⟨o', q1, q2⟩ := ms.get h1
    rw [h3] at q1
    cases q1
    cases t with
    | emp => cases h2
    | val y => cases h2
    | own ys =>
      obtain ⟨c, ws, z1, z2, _⟩ := q2
      cases z1
      rw [e3] at z2; cases z2
    | obj c ns ys =>
      obtain ⟨c, dx, ws, z1, z2, _⟩ := q2
      cases z1
      rw [e3] at z2; cases z2
end
end PF

set_option linter.all false
set_option maxRecDepth 100000
namespace PF
open PySem PySem.Spec PyProof.Rows L2

def notC : Expr → Bool
  | .ListComp .. => false
  | .SetComp .. => false
  | .DictComp .. => false
  | _ => true
theorem sw_no {e : Expr} {t : Option Expr} {l : Nat} {env : PySem.Env} (h : notC e = true) : swapsWith e t l env = pure false := by
  cases e <;> first | rfl | cases h
section
variable {B : Env1} {X : Cx} {n : Nat} {N W : List Str} {sc : Scope} {Λ0 Λ : List Addr} {G0 G H : Hp} {H0 : Ent} {σ : L2.St} {ρ : Env} {S : Sto} {D : Ends} {st : Stmt} {sts : List Stmt} {f g : FS} {a b c e : Expr} {fa fb : Env → M PV} {p pos : Pos} {x y : Str} {i j : Nat} {o o2 : Bool} {pg : Pg}

/-! ### small ones -/
theorem ss_pas : PS X (.Pass pos) (tS B X fun ρ S => .nxt ρ S) := PS_imp ps_pass fun D σ H ⟨Λ0, G0, H0, Λ, G, ρ, S, m, h⟩ => h σ Λ G H .refl m
theorem ss_brk : PS X (.Break pos) (tS B X fun ρ S => .brk ρ S) := PS_imp ps_break fun D σ H ⟨Λ0, G0, H0, Λ, G, ρ, S, m, h⟩ => h σ Λ G H .refl m
theorem ss_cnt : PS X (.Continue pos) (tS B X fun ρ S => .cnt ρ S) := PS_imp ps_continue fun D σ H ⟨Λ0, G0, H0, Λ, G, ρ, S, m, h⟩ => h σ Λ G H .refl m
theorem ss_retN : PS X (.Return none pos) (tS B X fun _ S => .ret .non S) := PS_imp ps_retN fun D σ H ⟨Λ0, G0, H0, Λ, G, ρ, S, m, h⟩ => h Λ G H .refl m.st m.sr .non (by simp only [Rep])
theorem ss_stk : PS X st (tS B X fun _ _ => .stk) := PS_imp ps_never fun D σ H ⟨Λ0, G0, H0, Λ, G, ρ, S, m, h⟩ => h
theorem ss_ret (ha : SE B X false a fa) : PS X (.Return (some a) pos) (tS B X fun ρ S => thn (fa ρ) ρ S fun v S => .ret v S) :=
  PS_imp (ps_ret ha.pe) fun D σ H ⟨Λ0, G0, H0, Λ, G, ρ, S, m, h⟩ => ⟨Λ, G, H0, ρ, S, m.sr, m.er, WP_imp (thn_WP m h) fun z S1 Λ1 G1 H1 _ t s k v rv => k Λ1 G1 H1 .refl (m.st.trans t) s v rv.s⟩
theorem ss_retNew {F : Env → M (List PV)} (ha : SF B X a (fun ρ => bnd (F ρ) fun xs => if xs.length ≤ line then ret (.lst xs) else stuck)) :
    PS X (.Return (some a) pos) (tS B X fun ρ S => thn (bnd (F ρ) fun xs => if xs.length ≤ line then ret xs else stuck) ρ S fun xs S => .ret (.loc S.length) (S ++ [xs])) := by
  refine PS_imp (ps_ret ha.pe) fun D σ H ⟨Λ0, G0, H0, Λ, G, ρ, S, m, h⟩ => ⟨Λ, G, H0, ρ, S, m.sr, m.er, ?_⟩
  have w := thn_WP m h
  unfold WP bnd at w ⊢
  dsimp only at w ⊢
  cases q : F ρ S with
  | stk => rw [q] at w; exact w
  | exc c fs S' => rw [q] at w; exact w
  | ok z =>
    obtain ⟨xs, S1⟩ := z
    rw [q] at w
    simp only [Out.bnd] at w ⊢
    by_cases hl : xs.length ≤ line
    · rw [if_pos hl] at w ⊢
      have w : ∀ Λ' G' H', Stp Λ G H Λ' G' H' → SR B.L Λ' G' H' S1 → Cnt B X D Λ0 G0 H0 Λ' G' (.ret (.loc S1.length) (S1 ++ [xs])) := w
      intro Λ1 G1 H1 t s ys p vs e1 hn hp rv hg hl2
      cases e1
      have s2 := s.new hp hg hl2 rv
      have t2 : Stp Λ0 G0 H0 (Λ1 ++ [p]) G1 H1 := by
        have t3 := m.st.trans t
        obtain ⟨l, e, hl3⟩ := t3.ext
        refine ⟨t3.g, t3.keep, t3.th, t3.fr, l ++ [p], by rw [e, List.append_assoc], fun q hq => ?_⟩
        rcases List.mem_append.mp hq with hq | hq
        · exact hl3 q hq
        · rw [List.mem_singleton.mp hq]; exact m.st.th p hn
      refine w Λ1 G1 H1 t s (Λ1 ++ [p]) G1 H1 ⟨.refl, [p], rfl⟩ t2 s2 (.ref p) ?_
      simp only [Rep]
      exact ⟨p, by rw [← s.len, List.getElem?_append_right (Nat.le_refl _), Nat.sub_self]; rfl, rfl⟩
    · rw [if_neg hl] at w ⊢
      exact w
theorem ss_exp (ha : SE B X false a fa) (hn : notC a = true) : PS X (.Expr a pos) (tS B X fun ρ S => thn (fa ρ) ρ S fun _ S => .nxt ρ S) :=
  PS_imp (ps_expr ha.pe (sw_no hn)) fun D σ H ⟨Λ0, G0, H0, Λ, G, ρ, S, m, h⟩ => by
    refine ⟨Λ, G, H0, ρ, S, m.sr, m.er, WP_imp (thn_WP m h) fun z S1 Λ1 G1 H1 _ t s k v rv => ?_⟩
    exact k σ Λ1 G1 H1 .refl (m.step t s)
theorem ss_doc {z : Str} {k : Nat} : PS X (.Expr (.Constant (.str z) k p) pos) (tS B X fun ρ S => .nxt ρ S) := PS_imp ps_doc fun D σ H ⟨Λ0, G0, H0, Λ, G, ρ, S, m, h⟩ => h σ Λ G H .refl m
theorem ss_if {sa sb : List Stmt} {fc : Env → M Bool} (hc : PT X c (tT B X fc)) (ha : PSs X sa (tS B X f)) (hb : PSs X sb (tS B X g)) : PS X (.If c sa sb pos) (tS B X fun ρ S => thn (fc ρ) ρ S fun k S => if k then f ρ S else g ρ S) := by
  refine PS_imp (ps_if hc ha hb) fun D σ H ⟨Λ0, G0, H0, Λ, G, ρ, S, m, h⟩ => ⟨Λ, G, H0, ρ, S, m.sr, m.er, WP_imp (thn_WP m h) fun k S1 Λ1 G1 H1 _ t s q => ?_⟩
  cases k with
  | true => exact ⟨Λ0, G0, H0, Λ1, G1, ρ, S1, m.step t s, q⟩
  | false => exact ⟨Λ0, G0, H0, Λ1, G1, ρ, S1, m.step t s, q⟩

/-! ### names -/
theorem store_facts (ok : XOk B n N sc W X) (hw : x ∈ W) : L2.Loc X.env.scope x ∧ (X.fn x = true ∨ X.env.scope.names.lookup x = some .local) := by
  rw [ok.nsc]; exact ok.st x hw
def setF (i : Nat) (o : Bool) (fa : Env → M PV) : FS := fun ρ S => thn (fa ρ) ρ S fun v S => match slOf o v with
  | some s => .nxt (ρ.set i s) S
  | none => .stk
theorem set_fin {v : V} {z : PV} {S1 : Sto} {Λ1 : List Addr} {G1 H1 : Hp} (m : At B Λ0 G0 H0 Λ G H σ ρ S) (t : Stp Λ G H Λ1 G1 H1) (s : SR B.L Λ1 G1 H1 S1) (rv : NewV B o H Λ1 G1 H1 z v)
    (k : Cnt B X D Λ0 G0 H0 Λ1 G1 (match slOf o z with
      | some s => .nxt (ρ.set i s) S1
      | none => .stk)) : D.nx (σ.set i (some v)) H1 := by
  cases q : slOf o z with
  | none => rw [q] at k; exact k.elim
  | some sl =>
    rw [q] at k
    exact k _ Λ1 G1 H1 .refl ((m.step t s).put m.er m.st rv q i)
theorem ss_set (ok : XOk B n N sc W X) (hi : N[i]? = some x) (hw : x ∈ W) (hn : notC a = true) (ha : SN B X o a fa) : PS X (.Assign [.Name x p] a pos) (tS B X (setF i o fa)) := by
  obtain ⟨h1, h2⟩ := store_facts ok hw
  refine PS_imp (ps_set (by rw [ok.nN]; exact ok.nd) (by rw [ok.nN]; exact hi) h1 ha.pe (sw_no hn) h2) fun D σ H ⟨Λ0, G0, H0, Λ, G, ρ, S, m, h⟩ => ⟨Λ, G, H0, ρ, S, m.sr, m.er, WP_imp (thn_WP m h) fun z S1 Λ1 G1 H1 _ t s k v rv => set_fin m t s rv k⟩
/-- a, b = x, y where the stores come from the right -/
theorem ss_par (ok : XOk B n N sc W X) {px py : Pos} {kt k2 : Nat} {pt pt2 : Pos} (hi : N[i]? = some x) (hj : N[j]? = some y) (hij : i ≠ j) (hx : sc.names.lookup x = some .local) (hy : sc.names.lookup y = some .local)
    (hsw : swappedStores [.Tuple [.Name x px, .Name y py] kt pt] (.Tuple [a, b] k2 pt2) X.env = pure (some [x, y])) (ha : SN B X o a fa) (hb : SN B X o2 b fb) :
    PS X (.Assign [.Tuple [.Name x px, .Name y py] kt pt] (.Tuple [a, b] k2 pt2) pos) (tS B X fun ρ S => thn (fa ρ) ρ S fun v S => thn (fb ρ) ρ S fun w S => match slOf o v, slOf o2 w with
      | some s, some t => .nxt ((ρ.set i s).set j t) S
      | _, _ => .stk) := by
  refine PS_imp (ps_par ok.calm (by rw [ok.nN]; exact ok.nd) (by rw [ok.nN]; exact hi) (by rw [ok.nN]; exact hj) hij (by rw [ok.nsc]; exact hx) (by rw [ok.nsc]; exact hy) (pa_cons ha.pe (pa_cons hb.pe pa_nil (star_cons hb.gd)) (star_cons ha.gd)) hsw)
    fun D σ H ⟨Λ0, G0, H0, Λ, G, ρ, S, m, h⟩ => ⟨Λ, G, H0, ρ, S, m.sr, m.er, WP_imp (thn_WP m h) fun z S1 Λ1 G1 H1 _ t1 s1 k v rv => ⟨Λ1, G1, H0, ρ, S1, s1, m.er.step t1, WP_imp (thn_WP (m.step t1 s1) k) fun z2 S2 Λ2 G2 H2 _ t2 s2 k2 w rw => ⟨v, w, rfl, ?_⟩⟩⟩
  have m1 := m.step t1 s1
  have m2 := m1.step t2 s2
  cases q : slOf o z with
  | none => rw [q] at k2; exact k2.elim
  | some sl =>
    cases q2 : slOf o2 z2 with
    | none => rw [q, q2] at k2; exact k2.elim
    | some sl2 =>
      rw [q, q2] at k2
      have p1 := m2.put m.er m.st (rv.step t2) q i
      have p0 := m1.put m.er m.st rv q i
      exact k2 _ Λ2 G2 H2 .refl (p1.put p0.er m1.st rw q2 j)
/-- targets = value -/
theorem ss_unp (ok : XOk B n N sc W X) {tg : Expr} {t : Tgt} (ht : STg X tg t) (ha : SE B X false a fa) (hn : notC a = true) (hw : swappedStores [tg] a X.env = pure none) (h1 : (assignEach [tg] X.env).map (·.2) = [assign tg X.env]) :
    PS X (.Assign [tg] a pos) (tS B X fun ρ S => thn (fa ρ) ρ S fun v S => match asgT t v ρ with
      | some ρ => .nxt ρ S
      | none => .stk) := by
  have hs : swapsWithSole [tg] a pos.line X.env = pure false := sw_no hn
  refine PS_imp (ps_asg ha.pe ht.pg hs hw h1) fun D σ H ⟨Λ0, G0, H0, Λ, G, ρ, S, m, h⟩ => ⟨Λ, G, H0, ρ, S, m.sr, m.er, WP_imp (thn_WP m h) fun z S1 Λ1 G1 H1 _ t1 s1 k v rv => ?_⟩
  cases q : asgT t z ρ with
  | none => rw [q] at k; exact k.elim
  | some ρ' =>
    rw [q] at k
    rw [ok.K]
    exact asgT_ok s1.sub q rv.s (m.er.step t1) fun σ' er _ => k σ' Λ1 G1 H1 .refl ⟨m.st.trans t1, s1, er⟩

/-! ### loops -/
theorem ss_for (ok : XOk B n N sc W X) {tg iter : Expr} {t : Tgt} {fI : Env → M (List PV)} (hi : SI B X tg iter fI) (ht : STg X tg t) (hb : PSs X sts (tS B X f)) :
    PS X (.For tg iter sts [] pos) (tS B X fun ρ S => thn (fI ρ) ρ S fun xs S => forL t f xs ρ S) := by
  refine PS_imp (ps_for ok.po ok.calm hi.pi ht.pg hb (fold_no hi.gd)) fun D σ H ⟨Λ0, G0, H0, Λ, G, ρ, S, m, h⟩ => ⟨Λ, G, H0, ρ, S, m.sr, m.er, WP_imp (thn_WP m h) fun xs S1 Λ1 G1 H1 _ t1 s1 k J wk => ?_⟩
  obtain ⟨Gd, Y, wlk, hGd, hY⟩ := wk.ex
  refine for_it wlk (fun i σ H => ∃ Λ' G' ρ' S', At B Λ0 G0 H0 Λ' G' H σ ρ' S' ∧ Grow Λ1 G1 Λ' G' ∧ Cnt B X D Λ0 G0 H0 Λ' G' (forL t f (xs.drop i) ρ' S')) ⟨Λ1, G1, ρ, S1, m.step t1 s1, .refl, k⟩ (fun i σ H _ ⟨Λ', G', ρ', S', m', gr, _⟩ => hGd G' H gr.g m'.sr.sub) ?_ ?_
  · rintro i v σ2 H2 H3 hlt ⟨Λ2, G2, ρ2, S2, m2, gr, q⟩ y
    obtain ⟨G3, px, ep, st3, sr3, rv⟩ := hY i H2 v H3 Λ2 G2 S2 hlt gr.g gr.p m2.sr y
    have ed : xs.drop i = px :: xs.drop (i + 1) := by
      rw [List.drop_eq_getElem_cons hlt]
      have : xs[i] = px := by rw [List.getElem?_eq_getElem hlt] at ep; exact Option.some.inj ep
      rw [this]
    rw [ed] at q
    unfold forL at q
    cases ea : asgT t px ρ2 with
    | none => rw [ea] at q; exact q.elim
    | some ρ3 =>
      rw [ea] at q
      have m3 := m2.step st3 sr3
      rw [ok.K]
      refine asgT_ok sr3.sub ea rv m3.er fun σ3 er3 _ => ⟨Λ0, G0, H0, Λ2, G3, ρ3, S2, ⟨m3.st, sr3, er3⟩, ?_⟩
      have q : Cnt B X D Λ0 G0 H0 Λ2 G3 _ := Cnt.grow q st3.grow
      have gr3 : Grow Λ1 G1 Λ2 G3 := gr.trans st3.grow
      dsimp only at q
      cases eb : f ρ3 S2 with
      | nxt ρ4 S4 =>
        rw [eb] at q
        exact fun σ' Λ' G' H' k m' => ⟨Λ', G', ρ4, S4, m', gr3.trans k, Cnt.grow q k⟩
      | cnt ρ4 S4 =>
        rw [eb] at q
        exact fun σ' Λ' G' H' k m' => ⟨Λ', G', ρ4, S4, m', gr3.trans k, Cnt.grow q k⟩
      | brk ρ4 S4 => rw [eb] at q; exact q
      | ret v S4 => rw [eb] at q; exact q
      | exc c fs ρ4 S4 => rw [eb] at q; exact q
      | stk => rw [eb] at q; exact q
  · rintro σ2 H2 ⟨Λ2, G2, ρ2, S2, m2, gr, q⟩
    rw [List.drop_length] at q
    exact q σ2 Λ2 G2 H2 .refl m2
theorem ss_whl (ok : XOk B n N sc W X) {fc : Env → M Bool} {k : Nat} (hc : PT X c (tT B X fc)) (hb : PSs X sts (tS B X f)) : PS X (.While c sts [] pos) (tS B X fun ρ S => whlL fc f k ρ S) := by
  refine PS_imp (ps_while ok.po hc hb) fun D σ H ⟨Λ0, G0, H0, Λ, G, ρ, S, m, h⟩ => ?_
  refine ⟨fun i σ H => ∃ Λ' G' ρ' S', At B Λ0 G0 H0 Λ' G' H σ ρ' S' ∧ Cnt B X D Λ0 G0 H0 Λ' G' (whlL fc f i ρ' S'), ⟨k, Λ, G, ρ, S, m, h⟩, ?_⟩
  rintro i σ2 H2 ⟨Λ2, G2, ρ2, S2, m2, q⟩
  cases i with
  | zero => exact q.elim
  | succ i =>
    unfold whlL at q
    refine ⟨Λ2, G2, H0, ρ2, S2, m2.sr, m2.er, WP_imp (thn_WP m2 q) fun b S3 Λ3 G3 H3 _ t3 s3 q3 => ?_⟩
    have m3 := m2.step t3 s3
    cases b with
    | false =>
      rw [if_neg Bool.false_ne_true] at q3
      refine (if_neg Bool.false_ne_true).mpr ?_
      exact q3 σ2 Λ3 G3 H3 .refl m3
    | true =>
      rw [if_pos rfl] at q3
      refine (if_pos rfl).mpr ?_
      refine ⟨fun σ H => ∃ Λ' G' ρ' S', At B Λ0 G0 H0 Λ' G' H σ ρ' S' ∧ Cnt B X D Λ0 G0 H0 Λ' G' (whlL fc f i ρ' S'), fun σ' H' z => ⟨i, Nat.lt_succ_self _, z⟩, Λ0, G0, H0, Λ3, G3, ρ2, S3, m3, ?_⟩
      cases eb : f ρ2 S3 with
      | nxt ρ4 S4 =>
        rw [eb] at q3
        exact fun σ' Λ' G' H' k m' => ⟨Λ', G', ρ4, S4, m', Cnt.grow q3 k⟩
      | cnt ρ4 S4 =>
        rw [eb] at q3
        exact fun σ' Λ' G' H' k m' => ⟨Λ', G', ρ4, S4, m', Cnt.grow q3 k⟩
      | brk ρ4 S4 => rw [eb] at q3; exact q3
      | ret v S4 => rw [eb] at q3; exact q3
      | exc c fs ρ4 S4 => rw [eb] at q3; exact q3
      | stk => rw [eb] at q3; exact q3
end
end PF

set_option linter.all false
set_option maxRecDepth 100000
namespace PF
open PySem PySem.Spec PyProof.Rows L2

section
variable {B : Env1} {X : Cx} {n : Nat} {N W : List Str} {sc : Scope} {Λ0 Λ : List Addr} {G0 G H : Hp} {H0 : Ent} {σ : L2.St} {ρ : Env} {S : Sto} {D : Ends} {a b c e : Expr} {fa fb : Env → M PV} {p p2 pos apos : Pos} {x y : Str} {i j : Nat} {o : Bool} {pg : Pg}

/-! ### comprehensions -/
def lcE (fI : Env → M (List PV)) (t : Tgt) (vs : List Nat) (fc : Env → M Bool) (fe : Env → M PV) : Env → M PV := fun ρ => bnd (fI ρ) fun xs => if xs.length ≤ line then bnd (lcL (lcF t vs fc fe ρ) xs) fun ys => ret (.lst ys) else stuck
theorem lcE_lst {fI : Env → M (List PV)} {t : Tgt} {vs : List Nat} {fc : Env → M Bool} {fe : Env → M PV} (ρ : Env) (S : Sto) (z : PV) (S' : Sto) (h : lcE fI t vs fc fe ρ S = .ok (z, S')) : ∃ xs, z = .lst xs := by
  obtain ⟨xs, S1, h1, h2⟩ := bnd_ok h
  split at h2
  · obtain ⟨ys, S2, h3, h4⟩ := bnd_ok h2
    cases h4
    exact ⟨ys, rfl⟩
  · cases h2
/-- what a comprehension's parts give -/
structure LcOk (B : Env1) (X : Cx) (elt tg iter : Expr) (ifs : List Expr) (scope : Scope) (own : List (Str × Nat)) (f : Env → M PV) : Prop where
  ex : ∃ wi g tt te, PI X tg iter wi ∧ BlkOk X.N X.env.scope scope own ∧ (∀ s H C cl fp, PG (X.blk s H scope (compEnvC scope cl C X.env) fp) tg g) ∧ (∀ s H C cl fp, PTs (X.blk s H scope (compEnvC scope cl C X.env) fp) ifs tt) ∧ (∀ s H C cl fp, PE (X.blk s H scope (compEnvC scope cl C X.env) fp) elt te) ∧
    (∀ σ H Q, tF B X f σ H Q → tLc wi g tt te (own.map (·.2)) σ H Q)
  gd : gd iter = true
  lst : ∀ ρ S x S', f ρ S = .ok (x, S') → ∃ xs, x = .lst xs
theorem sf_lc (ok : XOk B n N sc W X) {elt tg iter : Expr} {ifs : List Expr} {scope : Scope} {own : List (Str × Nat)} (h : LcOk B X elt tg iter ifs scope own fa) : SF B X (.ListComp elt [⟨tg, iter, ifs, 0⟩] scope pos) fa := by
  obtain ⟨wi, g, tt, te, h1, h2, h3, h4, h5, h6⟩ := h.ex
  exact ⟨PE_imp (pe_lc ok.calm (by rw [ok.nN]; exact ok.nd) h1 h2 h3 h4 h5 (fold_no h.gd)) h6, h.lst, rfl⟩
theorem ss_setLc (ok : XOk B n N sc W X) {elt tg iter : Expr} {ifs : List Expr} {scope : Scope} {own : List (Str × Nat)} (hk : sc.kind = .function) (hi : N[i]? = some x) (hl : sc.names.lookup x = some .local) (hp : (p.line == p2.line) = true)
    (hn : (scope.names.any fun (n, k) => n == x && (k == .local || k == .cell)) = false) (h : LcOk B X elt tg iter ifs scope own fa) : PS X (.Assign [.Name x p] (.ListComp elt [⟨tg, iter, ifs, 0⟩] scope p2) pos) (tS B X (setF i o fa)) := by
  obtain ⟨wi, g, tt, te, h1, h2, h3, h4, h5, h6⟩ := h.ex
  have key : ∀ D σ H, tS B X (setF i o fa) D σ H → tF B X fa σ H fun v H1 => D.nx (σ.set i (some v)) H1 := by
    intro D σ H ⟨Λ0, G0, H0, Λ, G, ρ, S, m, k⟩
    cases o with
    | true =>
      refine ⟨Λ, G, H0, ρ, S, m.sr, m.er, WP_imp (thn_WP m k) fun z S1 Λ1 G1 H1 _ t s q xs q2 vs e1 e2 e3 e4 e5 e6 => set_fin m t s (o := true) ?_ q⟩
      unfold NewV
      rw [if_pos rfl]
      exact ⟨xs, q2, vs, e1, rfl, e2, e3, e4, e5, e6⟩
    | false => exact tF_E h.lst ⟨Λ, G, H0, ρ, S, m.sr, m.er, WP_imp (thn_WP m k) fun z S1 Λ1 G1 H1 _ t s q v rv => set_fin m t s (o := false) rv.s q⟩
  refine PS_imp (ps_setLc ok.calm (by rw [ok.nN]; exact ok.nd) (by rw [ok.nN]; exact hi) (by rw [ok.nsc]; exact hl) (sw_true (by rw [ok.nsc]; exact hk) (by rw [ok.nsc]; exact hl) hp hn) h1 h2 h3 h4 h5 (fold_no h.gd)) fun D σ H q => ?_
  exact h6 σ H _ (key D σ H q)

/-! ### a list is changed -/
theorem mut_ok {Fm : List PV → Option (List PV)} {r : Res} (m : At B Λ0 G0 H0 Λ G H σ ρ S) (h : mutL i ρ S Fm = r) (hr : r ≠ .stk) :
    ∃ q vs xs ys, σ[i]? = some (some (.ref q)) ∧ H q = some (.lst vs) ∧ RepL B.L Λ G xs vs ∧ Fm xs = some ys ∧ (∀ zs, ρ[i]? = some (.own zs) → xs = zs) ∧ ∃ ρ' S', r = .nxt ρ' S' ∧ ∀ vs', RepL B.L Λ G ys vs' → At B Λ0 G0 H0 Λ G (upd H q (.lst vs')) σ ρ' S' := by
  unfold mutL at h
  split at h
  · rename_i xs e
    obtain ⟨u, h1, q, vs, rfl, h2, rv, h3, h4, h5⟩ := m.er.get e
    split at h
    · rename_i ys hy
      subst h
      refine ⟨q, vs, xs, ys, h1, h2, rv, hy, fun zs ez => by rw [e] at ez; cases ez; rfl, _, _, rfl, fun vs' rv' => ?_⟩
      have il := (List.getElem?_eq_some_iff.mp e).1
      refine ⟨⟨m.st.g, fun b u hb nb => ?_, fun b hb => ?_, m.st.fr, m.st.ext⟩, m.sr.chg h3 h4, ⟨by rw [List.length_set]; exact m.er.len, fun k s v k1 k2 => ?_, fun k1 k2 s1 s2 b1 b2 ne e1 e2 o1 o2 e3 e4 => ?_⟩⟩
      · have ne : b ≠ q := fun z => by rw [z, h5] at hb; cases hb
        rw [upd_ne ne]; exact m.st.keep b u hb nb
      · by_cases z : b = q
        · rw [z]; exact h5
        · rw [upd_ne z] at hb; exact m.st.th b hb
      · by_cases z : i = k
        · subst z
          rw [List.getElem?_set_self il] at k1
          cases k1
          rw [h1] at k2; cases k2
          exact ⟨q, vs', rfl, upd_same, rv', h3, h4, h5⟩
        · rw [List.getElem?_set_ne z] at k1
          have w := m.er.at_ k s v k1 k2
          cases s with
          | emp => trivial
          | val y => exact w
          | own zs =>
            obtain ⟨a2, ws, e1, e2, e3, e4, e5, e6⟩ := w
            subst e1
            have ne := m.er.dis i k _ _ q a2 z e k1 rfl rfl h1 k2
            exact ⟨a2, ws, rfl, by rw [upd_ne (Ne.symm ne)]; exact e2, e3, e4, e5, e6⟩
          | obj c ns zs =>
            obtain ⟨a2, dx, ws, e1, e2, el, e3, e4, e5, e6⟩ := w
            subst e1
            have ne := m.er.dis i k _ _ q a2 z e k1 rfl rfl h1 k2
            exact ⟨a2, dx, ws, rfl, by rw [upd_ne (Ne.symm ne)]; exact e2, el, e3, e4, e5, e6⟩
      · have go : ∀ {j : Nat} {s : Sl}, (ρ.set i (.own ys))[j]? = some s → isOwn s = true → ∃ s', ρ[j]? = some s' ∧ isOwn s' = true := fun {j s} w z => by
          by_cases e' : i = j
          · subst e'; exact ⟨_, e, rfl⟩
          · rw [List.getElem?_set_ne e'] at w; exact ⟨s, w, z⟩
        obtain ⟨s1', f1, f2⟩ := go e1 o1
        obtain ⟨s2', f3, f4⟩ := go e2 o2
        exact m.er.dis k1 k2 s1' s2' b1 b2 ne f1 f3 f2 f4 e3 e4
    · subst h; exact absurd rfl hr
  · rename_i k e
    obtain ⟨u, h1, v, rfl, rv⟩ := m.er.get e
    simp only [Rep] at rv
    obtain ⟨q, hq, rfl⟩ := rv
    split at h
    · rename_i xs hx
      split at h
      · rename_i ys hy
        subst h
        obtain ⟨vs, h2, rv⟩ := m.sr.at_ k q xs hq hx
        have gq := m.sr.out q (List.mem_of_getElem? hq)
        refine ⟨q, vs, xs, ys, h1, h2, rv, hy, fun zs ez => (by rw [e] at ez; cases ez), _, _, rfl, fun vs' rv' => ?_⟩
        have nG : ∀ b u, G b = some u → b ≠ q := fun b u hb z => by rw [z, gq] at hb; cases hb
        obtain ⟨l, el, hl⟩ := m.st.ext
        have qm : q ∈ Λ0 ∨ H0 q = none := by
          have := List.mem_of_getElem? hq
          rw [el] at this
          exact (List.mem_append.mp this).imp id (hl q)
        refine ⟨⟨m.st.g, fun b u hb nb => ?_, fun b hb => ?_, m.st.fr, m.st.ext⟩, m.sr.put hq rv', ⟨m.er.len, fun k2 s v k3 k4 => ?_, m.er.dis⟩⟩
        · have ne : b ≠ q := fun z => by
            subst z
            rcases qm with z | z
            · exact nb z
            · rw [z] at hb; cases hb
          rw [upd_ne ne]; exact m.st.keep b u hb nb
        · by_cases z : b = q
          · rw [z, upd_same] at hb; cases hb
          · rw [upd_ne z] at hb; exact m.st.th b hb
        · have w := m.er.at_ k2 s v k3 k4
          have qL := List.mem_of_getElem? hq
          cases s with
          | emp => trivial
          | val y => exact w
          | own zs =>
            obtain ⟨a2, ws, e1, e2, e3, e4, e5, e6⟩ := w
            exact ⟨a2, ws, e1, by rw [upd_ne (fun z => e5 (by rw [z]; exact qL))]; exact e2, e3, e4, e5, e6⟩
          | obj c ns zs =>
            obtain ⟨a2, dx, ws, e1, e2, el, e3, e4, e5, e6⟩ := w
            exact ⟨a2, dx, ws, e1, by rw [upd_ne (fun z => e5 (by rw [z]; exact qL))]; exact e2, el, e3, e4, e5, e6⟩
      · subst h; exact absurd rfl hr
    · subst h; exact absurd rfl hr
  · subst h; exact absurd rfl hr
theorem Cnt_ne {r : Res} (h : Cnt B X D Λ0 G0 H0 Λ G r) : r ≠ .stk := fun e => by subst e; exact h
theorem chk_ok {Λ1 : List Addr} {G1 H1 : Hp} {S1 : Sto} {α : Type} {k : M α} {K : KK α} (sr : SR B.L Λ G H S) (er : ER B.L Λ G H H0 σ ρ) (h : WP B X σ Λ G H (bnd (chk ρ i) fun _ => k) S K) : WP B X σ Λ G H k S K ∧ ∃ q vs, σ[i]? = some (some (.ref q)) ∧ H q = some (.lst vs) := by
  unfold chk at h
  split at h
  · rename_i xs e
    obtain ⟨u, h1, q, vs, rfl, h2, _⟩ := er.get e
    exact ⟨WP_imp (WP_ret (WP_bnd h) _ _ _ .refl sr) fun _ _ _ _ _ _ _ _ k => k, q, vs, h1, h2⟩
  · rename_i k2 e
    obtain ⟨u, h1, v, rfl, rv⟩ := er.get e
    simp only [Rep] at rv
    obtain ⟨q, hq, rfl⟩ := rv
    obtain ⟨vs, h2⟩ := sr.there (List.mem_of_getElem? hq)
    exact ⟨WP_imp (WP_ret (WP_bnd h) _ _ _ .refl sr) fun _ _ _ _ _ _ _ _ k => k, q, vs, h1, h2⟩
  · exact (WP_stuck (WP_bnd h)).elim
/-- x[k] = v -/
theorem ss_sub (ok : XOk B n N sc W X) (hi : N[i]? = some x) (hv : Vis sc x) (h1 : (x == ("__debug__" : Str)) = false) (h2 : (x == ("__classdict__" : Str)) = false) (hn : notC a = true) (ha : SE B X false a fa) (hb : SE B X false b fb) :
    PS X (.Assign [.Subscript (.Name x p) b p2] a pos) (tS B X fun ρ S => thn (fa ρ) ρ S fun v S => thn (bnd (chk ρ i) fun _ => fb ρ) ρ S fun k S => match k with
      | .int k => mutL i ρ S fun xs => (ixN xs.length k).map fun j => xs.set j v
      | _ => .stk) := by
  have hs : swapsWithSole [Expr.Subscript (.Name x p) b p2] a pos.line X.env = pure false := by
    show swapsWith a (some (Expr.Subscript (.Name x p) b p2)) pos.line X.env = pure false
    exact sw_no hn
  have hw : swappedStores [Expr.Subscript (.Name x p) b p2] a X.env = pure none := by cases a <;> rfl
  have hset : ∀ v, assign (.Subscript (.Name x p) b p2) X.env v = (do
      let ov ← holding [v] (eval (.Name x p) X.env)
      let iv ← holding [v, ov] (eval b X.env)
      standAt p2
      holding [v, ov, iv] (setItem ov iv v)
      release [v, ov, iv] []) := by
    intro v
    have g := hb.gd
    cases b <;> first | rfl | cases g
  refine PS_imp (ps_asg ha.pe (pg_sub (pe_var (i := i) (by rw [ok.nN]; exact hi) (by rw [ok.nsc]; exact hv) h1 h2) hb.pe set_list hset) hs hw) fun D σ H ⟨Λ0, G0, H0, Λ, G, ρ, S, m, h⟩ =>
    ⟨Λ, G, H0, ρ, S, m.sr, m.er, WP_imp (thn_WP m h) fun z S1 Λ1 G1 H1 _ t1 s1 k v rv => ?_⟩
  have m1 := m.step t1 s1
  obtain ⟨w, q, vs, hq, _⟩ := chk_ok (Λ1 := Λ1) (G1 := G1) (H1 := H1) (S1 := S1) s1 m1.er (thn_WP m1 k)
  refine ⟨.ref q, hq, Λ1, G1, H0, ρ, S1, s1, m1.er, WP_imp w fun z2 S2 Λ2 G2 H2 _ t2 s2 k2 u ru => ?_⟩
  cases z2 with
  | int ix =>
    obtain ⟨q', ws, xs, ys, e1, e2, e3, e4, _, ρ', S', e5, e6⟩ := mut_ok (m1.step t2 s2) rfl (Cnt_ne k2)
    rw [hq] at e1
    cases e1
    obtain ⟨j, hj, hy⟩ := Option.map_eq_some_iff.mp e4
    refine ⟨q, ws, ix, j, rfl, ru.b.int, e2, by rw [← e3.len]; exact hj, ?_⟩
    dsimp only at k2
    rw [e5] at k2
    subst hy
    exact k2 σ Λ2 G2 _ .refl (e6 _ (e3.set j (Rep.mono t2.g t2.pre _ _ rv.s)))
  | _ => exact k2.elim

/-! ### methods of lists -/
theorem hfew1 {env : PySem.Env} {pos : Pos} (h : gd a = true) : ((backTo pos (starEach [a] env)).all (fun x => !x.1) && (backToKw pos (keywordEach [] env)).all (fun x => x.1.isSome) && decide ([a].length + ([] : List Keyword).length + (if ([] : List Keyword).isEmpty then 0 else 1) < 30)) = true := by
  rw [star1 h]; rfl
/-- x.append(e) -/
theorem ss_app (ok : XOk B n N sc W X) (hi : N[i]? = some x) (hv : Vis sc x) (h1 : (x == ("__debug__" : Str)) = false) (h2 : (x == ("__classdict__" : Str)) = false) (hl : (apos.endLine == p2.line) = true) (ha : SE B X false a fa) :
    PS X (.Expr (.Call (.Attribute (.Name x p) "append" apos) [a] [] p2) pos) (tS B X fun ρ S => thn (bnd (chk ρ i) fun _ => fa ρ) ρ S fun v S => mutL i ρ S fun xs => if xs.length < line then some (xs ++ [v]) else none) := by
  refine PS_imp (ps_expr (pe_bm F.plainAttrs_list F.slot_list_append rfl mt_append (pe_var (i := i) (by rw [ok.nN]; exact hi) (by rw [ok.nsc]; exact hv) h1 h2) (pa_cons ha.pe pa_nil (star_cons ha.gd)) (att_base rfl) (hfew1 ha.gd) hl (star_cons ha.gd) rfl) (sw_no rfl)) fun D σ H ⟨Λ0, G0, H0, Λ, G, ρ, S, m, h⟩ => ?_
  obtain ⟨w, q, vs, hq, hH⟩ := chk_ok (Λ1 := Λ) (G1 := G) (H1 := H) (S1 := S) m.sr m.er (thn_WP m h)
  refine ⟨.ref q, hq, .inl ⟨rfl, vs, SqL.of hH⟩, Λ, G, H0, ρ, S, m.sr, m.er, WP_imp w fun z S1 Λ1 G1 H1 _ t1 s1 k v rv => ?_⟩
  obtain ⟨q', ws, xs, ys, e1, e2, e3, e4, _, ρ', S', e5, e6⟩ := mut_ok (m.step t1 s1) rfl (Cnt_ne k)
  rw [hq] at e1
  cases e1
  split at e4
  · rename_i hz
    cases e4
    refine ⟨q, ws, v, rfl, rfl, e2, by rw [← e3.len, ← line_eq]; exact hz, ?_⟩
    rw [e5] at k
    exact k σ Λ1 G1 _ .refl (e6 _ (e3.app (repL_cons rv.s repL_nil)))
  · cases e4
/-- x.append(y.pop(e)) -/
theorem ss_appop (ok : XOk B n N sc W X) {p3 p4 apos2 : Pos} (hi : N[i]? = some x) (hv : Vis sc x) (h1 : (x == ("__debug__" : Str)) = false) (h2 : (x == ("__classdict__" : Str)) = false) (hl : (apos.endLine == p2.line) = true)
    (hj : N[j]? = some y) (hw : Vis sc y) (h3 : (y == ("__debug__" : Str)) = false) (h4 : (y == ("__classdict__" : Str)) = false) (hl2 : (apos2.endLine == p4.line) = true) (ha : SE B X false a fa) :
    PS X (.Expr (.Call (.Attribute (.Name x p) "append" apos) [.Call (.Attribute (.Name y p3) "pop" apos2) [a] [] p4] [] p2) pos) (tS B X fun ρ S => thn (bnd (chk ρ i) fun _ => bnd (chk ρ j) fun _ => fa ρ) ρ S fun v S => match v, ρ[j]? with
      | .int k, some (.own ys) => match ixN ys.length k, decide (i = j) || !inR k with
        | some n, false => match ys[n]? with
          | some y => mutL i (ρ.set j (.own (ys.eraseIdx n))) S fun xs => if xs.length < line then some (xs ++ [y]) else none
          | none => .stk
        | _, _ => .stk
      | _, _ => .stk) := by
  have hin := pe_bm F.plainAttrs_list F.slot_list_pop rfl mt_popAt (pe_var (X := X) (pos := p3) (i := j) (by rw [ok.nN]; exact hj) (by rw [ok.nsc]; exact hw) h3 h4) (pa_cons ha.pe pa_nil (star_cons ha.gd)) (apos := apos2) (cpos := p4) (att_base rfl) (hfew1 ha.gd) hl2 (star_cons ha.gd) rfl
  refine PS_imp (ps_expr (pe_bm F.plainAttrs_list F.slot_list_append rfl mt_append (pe_var (i := i) (by rw [ok.nN]; exact hi) (by rw [ok.nsc]; exact hv) h1 h2) (pa_cons hin pa_nil (star_cons rfl)) (att_base rfl) (hfew1 rfl) hl (star_cons rfl) rfl) (sw_no rfl)) fun D σ H ⟨Λ0, G0, H0, Λ, G, ρ, S, m, h⟩ => ?_
  obtain ⟨w, q, vs, hq, hH⟩ := chk_ok (Λ1 := Λ) (G1 := G) (H1 := H) (S1 := S) m.sr m.er (thn_WP m h)
  obtain ⟨w, q2, vs2, hq2, hH2⟩ := chk_ok (Λ1 := Λ) (G1 := G) (H1 := H) (S1 := S) m.sr m.er w
  refine ⟨.ref q, hq, .inl ⟨rfl, vs, SqL.of hH⟩, .ref q2, hq2, .inl ⟨rfl, vs2, SqL.of hH2⟩, Λ, G, H0, ρ, S, m.sr, m.er, WP_imp w fun z S1 Λ1 G1 H1 _ t1 s1 k v rv => ?_⟩
  have m1 := m.step t1 s1
  cases z with
  | int ix =>
    cases e : ρ[j]? with
    | none => rw [e] at k; exact k.elim
    | some sl =>
      rw [e] at k
      cases sl with
      | own ys =>
        have k : Cnt B X D Λ0 G0 H0 Λ1 G1 (match ixN ys.length ix, decide (i = j) || !inR ix with
          | some n, false => match ys[n]? with
            | some y => mutL i (ρ.set j (.own (ys.eraseIdx n))) S1 fun xs => if xs.length < line then some (xs ++ [y]) else none
            | none => .stk
          | _, _ => .stk) := k
        split at k
        · rename_i n0 hn hc
          rw [Bool.or_eq_false_iff] at hc
          have hr := inR_ok (i := ix) (by simpa using hc.2)
          cases ey : ys[n0]? with
          | none => rw [ey] at k; exact k.elim
          | some yv =>
            rw [ey] at k
            have k : Cnt B X D Λ0 G0 H0 Λ1 G1 (mutL i (ρ.set j (.own (ys.eraseIdx n0))) S1 fun xs => if xs.length < line then some (xs ++ [yv]) else none) := k
            have e0 : mutL j ρ S1 (fun zs => some (zs.eraseIdx n0)) = .nxt (ρ.set j (.own (ys.eraseIdx n0))) S1 := by
              unfold mutL; rw [e]
            obtain ⟨q3, ws, xs, xs', e1, e2, e3, e4, ez, ρ2, S2, e5, e6⟩ := mut_ok m1 e0 (fun z => nomatch z)
            cases e5
            cases e4
            rw [hq2] at e1
            cases e1
            have exy : xs = ys := ez _ e
            subst exy
            have mm := e6 _ (e3.erase n0)
            obtain ⟨q4, us, zs, zs', f1, f2, f3, f4, _, ρ3, S3, f5, f6⟩ := mut_ok mm rfl (Cnt_ne k)
            rw [hq] at f1
            cases f1
            obtain ⟨yu, g1, g2⟩ := e3.get ey
            split at f4
            · rename_i hz
              cases f4
              refine ⟨q2, ws, ix, n0, yu, rfl, by rw [rv.b.int], e2, by omega, by omega, by rw [← e3.len]; exact (ixN_seq hn).1, g1, q, us, yu, rfl, rfl, f2, by rw [← f3.len, ← line_eq]; exact hz, ?_⟩
              rw [f5] at k
              exact k σ Λ1 G1 _ .refl (f6 _ (f3.app (repL_cons g2 repL_nil)))
            · cases f4
        · exact k.elim
      | _ => exact k.elim
  | _ => exact k.elim
theorem put_zip (f : Str) (v : V) : ∀ {ns : List Str} {vs : List V}, ns.length = vs.length → (putN f ns).zip (putX f v ns vs) = putF f v (ns.zip vs) ∧ (putN f ns).length = (putX f v ns vs).length
  | [], [], _ => ⟨rfl, rfl⟩
  | [], _ :: _, h => by simp at h
  | _ :: _, [], h => by simp at h
  | m :: ns, w :: vs, h => by
    obtain ⟨ih1, ih2⟩ := put_zip f v (ns := ns) (vs := vs) (by simpa using h)
    unfold putN putX
    show _ = putF f v ((m, w) :: ns.zip vs) ∧ _
    unfold putF
    by_cases e : m = f
    · rw [if_pos e, if_pos e, if_pos e]
      exact ⟨rfl, by simpa using h⟩
    · rw [if_neg e, if_neg e, if_neg e]
      exact ⟨by rw [List.zip_cons_cons, ih1], by rw [List.length_cons, List.length_cons, ih2]⟩
theorem put_rep {L : Lk} {f : Str} {x : PV} {v : V} (r : Rep L Λ G x v) : ∀ {ns : List Str} {xs : List PV} {vs : List V}, ns.length = vs.length → RepL L Λ G xs vs → RepL L Λ G (putX f x ns xs) (putX f v ns vs)
  | [], xs, vs, h, rv => by
    have e : putX f x [] xs = [x] := by unfold putX; rfl
    have e2 : putX f v ([] : List Str) vs = [v] := by unfold putX; rfl
    rw [e, e2]
    exact repL_cons r repL_nil
  | m :: ns, [], vs, h, rv => by
    simp only [RepL] at rv
    subst rv
    simp at h
  | m :: ns, y :: xs, vs, h, rv => by
    simp only [RepL] at rv
    obtain ⟨w, ws, rfl, r1, r2⟩ := rv
    unfold putX
    by_cases e : m = f
    · rw [if_pos e, if_pos e]; exact repL_cons r r2
    · rw [if_neg e, if_neg e]; exact repL_cons r1 (put_rep r (by simpa using h) r2)
/-- x.f = e, x the instance that is made -/
theorem ss_fld (ok : XOk B n N sc W X) (cf : CF B pg) {f : Str} (hi : N[i]? = some x) (hv : Vis sc x) (h1 : (x == ("__debug__" : Str)) = false) (h2 : (x == ("__classdict__" : Str)) = false) (hn : notC a = true) (ha : SE B X false a fa) :
    PS X (.Assign [.Attribute (.Name x p) f p2] a pos) (tS B X fun ρ S => thn (fa ρ) ρ S fun v S => match ρ[i]? with
      | some (.obj c ns xs) => if decide (ns.length < 1000) && (pg.cls.getD c default).flds.contains f then .nxt (ρ.set i (.obj c (putN f ns) (putX f v ns xs))) S else .stk
      | _ => .stk) := by
  refine PS_imp (ps_fld (pe_var (i := i) (by rw [ok.nN]; exact hi) (by rw [ok.nsc]; exact hv) h1 h2) ha.pe (sw_no hn)) fun D σ H ⟨Λ0, G0, H0, Λ, G, ρ, S, m, h⟩ => ⟨Λ, G, H0, ρ, S, m.sr, m.er, WP_imp (thn_WP m h) fun z S1 Λ1 G1 H1 _ t1 s1 k v rv => ?_⟩
  have m1 := m.step t1 s1
  cases e : ρ[i]? with
  | none => rw [e] at k; exact k.elim
  | some sl =>
    rw [e] at k
    cases sl with
    | obj c ns xs =>
      have k : Cnt B X D Λ0 G0 H0 Λ1 G1 (if decide (ns.length < 1000) && (pg.cls.getD c default).flds.contains f then .nxt (ρ.set i (.obj c (putN f ns) (putX f z ns xs))) S1 else .stk) := k
      split at k
      · rename_i hc
        rw [Bool.and_eq_true, decide_eq_true_eq] at hc
        obtain ⟨u, hs, q, dx, vs, rfl, hH, hl, r, g1, g2, g3⟩ := m1.er.get e
        obtain ⟨k1, k2⟩ := cf.att c f hc.2
        obtain ⟨z1, z2⟩ := put_zip f v hl
        refine ⟨.ref q, hs, q, _, dx, _, rfl, hH, by rw [ok.K]; exact k1, by rw [ok.K]; exact k2, ?_, ?_⟩
        · rw [List.length_zip, ← hl, Nat.min_self]; exact hc.1
        · rw [← z1]
          have il := (List.getElem?_eq_some_iff.mp e).1
          refine k σ Λ1 G1 _ .refl ⟨⟨m1.st.g, fun b u hb nb => ?_, fun b hb => ?_, m1.st.fr, m1.st.ext⟩, m1.sr.chg g1 g2, ⟨by rw [List.length_set]; exact m1.er.len, fun k s w k1 k2 => ?_, fun k1 k2 s1 s2 b1 b2 ne e1 e2 o1 o2 e3 e4 => ?_⟩⟩
          · have ne : b ≠ q := fun z => by rw [z, g3.1] at hb; cases hb
            rw [upd_ne ne]; exact m1.st.keep b u hb nb
          · by_cases z : b = q
            · rw [z]; exact g3.1
            · rw [upd_ne z] at hb; exact m1.st.th b hb
          · by_cases z0 : i = k
            · subst z0
              rw [List.getElem?_set_self il] at k1
              cases k1
              rw [hs] at k2; cases k2
              exact ⟨q, dx, _, rfl, upd_same, z2, put_rep rv.s hl r, g1, g2, g3⟩
            · rw [List.getElem?_set_ne z0] at k1
              have w' := m1.er.at_ k s w k1 k2
              cases s with
              | emp => trivial
              | val y => exact w'
              | own zs =>
                obtain ⟨a2, ws, e1, e2, e3, e4, e5, e6⟩ := w'
                subst e1
                have ne := m1.er.dis i k _ _ q a2 z0 e k1 rfl rfl hs k2
                exact ⟨a2, ws, rfl, by rw [upd_ne (Ne.symm ne)]; exact e2, e3, e4, e5, e6⟩
              | obj c ns zs =>
                obtain ⟨a2, dx, ws, e1, e2, el, e3, e4, e5, e6⟩ := w'
                subst e1
                have ne := m1.er.dis i k _ _ q a2 z0 e k1 rfl rfl hs k2
                exact ⟨a2, dx, ws, rfl, by rw [upd_ne (Ne.symm ne)]; exact e2, el, e3, e4, e5, e6⟩
          · have go : ∀ {j : Nat} {s : Sl}, (ρ.set i (.obj c (putN f ns) (putX f z ns xs)))[j]? = some s → isOwn s = true → ∃ s', ρ[j]? = some s' ∧ isOwn s' = true := fun {j s} w z => by
              by_cases e' : i = j
              · subst e'; exact ⟨_, e, rfl⟩
              · rw [List.getElem?_set_ne e'] at w; exact ⟨s, w, z⟩
            obtain ⟨s1', f1, f2⟩ := go e1 o1
            obtain ⟨s2', f3, f4⟩ := go e2 o2
            exact m1.er.dis k1 k2 s1' s2' b1 b2 ne f1 f3 f2 f4 e3 e4
      · exact k.elim
    | _ => exact k.elim
end
end PF

set_option linter.all false
set_option maxRecDepth 100000
namespace PF
open PySem PySem.Spec PyProof.Rows L2

/-! ### from the text's forms to ours -/
/-- what is known of the names of the text -/
structure TC where
  N : List Str
  free : List Str
  fnI : List (Str × Nat)
  clI : List (Str × Nat)
  glb : List (Str × PV)
  selF : Nat → Nat → List Str → Option (List Sel)
  selM : Nat → Nat → List Str → Option (List Sel)
  selT : Str → Nat → List Str → Option (List Sel)
def okn (x : Str) : Bool := !(x == ("__debug__" : Str)) && !(x == ("__classdict__" : Str))
def visB (sc : Scope) (x : Str) : Bool := match sc.names.lookup x with
  | some .local => true
  | some .cell => true
  | some .free => true
  | _ => false
def glB (sc : Scope) (x : Str) : Bool := match sc.names.lookup x with
  | some .globalImplicit => true
  | _ => false
theorem vis_ok {sc : Scope} {x : Str} (h : visB sc x = true) : Vis sc x := by
  unfold visB at h
  unfold Vis
  split at h
  · rename_i e; exact .inl e
  · rename_i e; exact .inr (.inl e)
  · rename_i e; exact .inr (.inr e)
  · cases h
theorem gl_ok {sc : Scope} {x : Str} (h : glB sc x = true) : sc.names.lookup x = some .globalImplicit := by
  unfold glB at h
  split at h
  · assumption
  · cases h
theorem okn_ok {x : Str} (h : okn x = true) : (x == ("__debug__" : Str)) = false ∧ (x == ("__classdict__" : Str)) = false := by
  unfold okn at h
  simpa only [Bool.and_eq_true, Bool.not_eq_true'] using h
theorem ix_ok {N : List Str} {x : Str} {i : Nat} (h : N.idxOf? x = some i) : N[i]? = some x := by
  obtain ⟨h1, h2, _⟩ := List.idxOf?_eq_some_iff.mp h
  exact List.getElem?_eq_some_iff.mpr ⟨h1, by simpa using h2⟩
def opP : Operator → Option Bop
  | .Add => some .add | .Sub => some .sub | .Mult => some .mul | .FloorDiv => some .fdiv | .Mod => some .mod | .Pow => some .pow | .LShift => some .shl | .RShift => some .shr | .BitAnd => some .band | .BitOr => some .bor | .BitXor => some .bxor
  | _ => none
theorem opP_ok {o : Operator} {q : Bop} (h : opP o = some q) : opOf q = o := by cases o <;> cases h <;> rfl
def copP : CmpOp → Option Cop
  | .Eq => some .eq | .NotEq => some .ne | .Lt => some .lt | .LtE => some .le | .Gt => some .gt | .GtE => some .ge | .In => some .in_ | .NotIn => some .nin
  | _ => none
theorem copP_ok {o : CmpOp} {q : Cop} (h : copP o = some q) : copOf q = o ∧ q ≠ .isn ∧ q ≠ .notn := by cases o <;> cases h <;> exact ⟨rfl, (fun z => nomatch z), fun z => nomatch z⟩
def bifs : List Bif := [.len, .int, .abs, .tuple, .list, .sorted, .sum, .max, .min, .all, .any, .repr, .str, .bool]
def bifOf (x : Str) : Option Bif := bifs.find? fun b => decide (x = Str.ofString (bifN b))
theorem bifOf_ok {x : Str} {b : Bif} (h : bifOf x = some b) : x = Str.ofString (bifN b) := by
  unfold bifOf at h
  have h2 := List.find?_some h
  exact of_decide_eq_true h2
def tyNs : List String := ["int", "bool", "str", "list", "tuple", "dict", "float"]
def tyOfN (x : Str) : Option String := tyNs.find? fun n => decide (x = Str.ofString n)
theorem boot_tys : ∀ n ∈ tyNs, bootBuiltins (Str.ofString n) = some (.type n) ∧ Str.ofString n ≠ "__name__" := by decide +kernel
def ty1 (c : TC) (sc : Scope) : Expr → Option Ty
  | .Name x _ => if okn x && glB sc x then (if c.free.contains x then (tyOfN x).map .b else (c.clI.lookup x).map .c) else none
  | _ => none
def tyL (c : TC) (sc : Scope) : List Expr → Option (List Ty)
  | [] => some []
  | e :: es => do
    let t ← ty1 c sc e
    let ts ← tyL c sc es
    pure (t :: ts)
def tys (c : TC) (sc : Scope) : Expr → Option (List Ty)
  | .Tuple es _ _ => do
    let ts ← tyL c sc es
    if decide (ts.length ≤ 100) && !ts.isEmpty then pure ts else none
  | e => (ty1 c sc e).map fun t => [t]
/-- a block's own names, those that may be stored -/
def ownOf (N : List Str) (scope : Scope) : List (Str × Nat) := scope.names.filterMap fun y => match y.2, N.idxOf? y.1 with
  | .local, some i => some (y.1, i)
  | .cell, some i => some (y.1, i)
  | _, _ => none
def stNames (sc scope : Scope) (own : List (Str × Nat)) : List Str := (own.map (·.1)).filter fun x => decide ((relS scope sc).names.lookup x = some .local) || (decide ((relS scope sc).names.lookup x = some .cell) && decide (scope.names.lookup x = some .cell))
theorem stNames_ok {sc scope : Scope} {own : List (Str × Nat)} : ∀ x ∈ stNames sc scope own, L2.Loc (relS scope sc) x ∧ ((scope.names.lookup x == some .cell) = true ∨ (relS scope sc).names.lookup x = some .local) := by
  intro x hx
  have h := (List.mem_filter.mp hx).2
  rw [Bool.or_eq_true, Bool.and_eq_true, decide_eq_true_eq, decide_eq_true_eq, decide_eq_true_eq] at h
  rcases h with h | ⟨h1, h2⟩
  · exact ⟨.inl h, .inr h⟩
  · exact ⟨.inr h1, .inl (by rw [h2]; rfl)⟩

mutual
def trE (c : TC) : Nat → Scope → List Str → Bool → Expr → Option Ex
  | 0, _, _, _, _ => none
  | n + 1, sc, W, b, e => match e with
    | .Constant v _ _ => (constP v).map .cst
    | .Name x _ => if okn x then (if visB sc x then (c.N.idxOf? x).map (if b then Ex.bor else Ex.var) else if glB sc x then (c.glb.lookup x).map (.glb x) else none) else none
    | .BinOp a o d _ => do
      let q ← opP o
      let a' ← trE c n sc W true a
      let d' ← trE c n sc W true d
      pure (.bin q a' d')
    | .UnaryOp .USub a _ => do
      let a' ← trE c n sc W true a
      pure (.neg a')
    | .UnaryOp .Not a _ => do
      let a' ← trE c n sc W true a
      pure (.not a')
    | .BoolOp o es _ => trB c n sc W b o es
    | .IfExp t a d _ => do
      let t' ← trT c n sc W t
      let a' ← trE c n sc W b a
      let d' ← trE c n sc W b d
      pure (.ite t' a' d')
    | .Compare a [.Is] [.Constant .none _ _] _ => do
      let a' ← trE c n sc W true a
      pure (.cmp .isn a' (.cst .non))
    | .Compare a [.IsNot] [.Constant .none _ _] _ => do
      let a' ← trE c n sc W true a
      pure (.cmp .notn a' (.cst .non))
    | .Compare a [o] [d] _ => do
      let q ← copP o
      let a' ← trE c n sc W true a
      let d' ← trE c n sc W true d
      pure (.cmp q a' d')
    | .Compare a [o, p] [d, e] _ => do
      let q ← copP o
      let r ← copP p
      let a' ← trE c n sc W true a
      let d' ← trE c n sc W true d
      let e' ← trE c n sc W true e
      pure (.chn q r a' d' e')
    | .Tuple es _ _ => do
      let xs ← trA c n sc W es
      pure (.tup xs)
    | .List es _ => do
      let xs ← trA c n sc W es
      pure (.lst xs)
    | .Subscript a (.Slice lo hi none _) _ => do
      let a' ← trE c n sc W true a
      let l ← trO c n sc W lo
      let h ← trO c n sc W hi
      pure (.slc a' l h)
    | .Subscript a i _ => do
      let a' ← trE c n sc W true a
      let i' ← trE c n sc W true i
      pure (.idx a' i')
    | .Attribute (.Name x _) f _ => if okn x && visB sc x then (c.N.idxOf? x).map fun i => .atO i f else none
    | .Attribute a f _ => if nosup a then do
        let a' ← trE c n sc W true a
        pure (.att a' f)
      else none
    | .Call (.Name x _) es kws _ => if okn x && glB sc x then
        (if c.free.contains x then
          (if x = ("isinstance" : Str) then (match es, kws with
            | [a, t], [] => do
              let a' ← trE c n sc W true a
              let ts ← tys c sc t
              pure (.isi a' ts)
            | _, _ => none)
          else (match es, kws with
            | e :: r, [] => do
              let q ← bifOf x
              let xs ← trAb c n sc W (e :: r)
              pure (.bif q xs)
            | _, _ => none))
        else (match c.fnI.lookup x with
          | some f => do
            let xs ← trA c n sc W es
            let ks ← kwN kws
            let ys ← trK c n sc W kws
            let sel ← c.selF f es.length ks
            pure (.call f xs ys sel)
          | none => do
            let k ← c.clI.lookup x
            let xs ← trA c n sc W es
            let ks ← kwN kws
            let ys ← trK c n sc W kws
            let sel ← c.selM k es.length ks
            pure (.make k xs ys sel)))
      else none
    | .Call (.Attribute o m ap) es kws p => if nosup o && (ap.endLine == p.line) && decide (es.length + kws.length < 15) then do
        let o' ← trE c n sc W false o
        let xs ← trA c n sc W es
        let ks ← kwN kws
        let ys ← trK c n sc W kws
        let sel ← c.selT m es.length ks
        pure (.meth o' m xs ys sel)
      else none
    | .ListComp elt [⟨tg, it, ifs, k⟩] scope _ => if k = 0 then trL c n sc W elt tg it ifs scope else none
    | _ => none
def trL (c : TC) : Nat → Scope → List Str → Expr → Expr → Expr → List Expr → Scope → Option Ex
  | 0, _, _, _, _, _, _, _ => none
  | n + 1, sc, W, elt, tg, it, ifs, scope => if blkC c.N sc scope (ownOf c.N scope) then do
      let t ← tgOf c.N (stNames sc scope (ownOf c.N scope)) tg
      let i ← trI c n sc W tg it
      let cs ← trC c n (relS scope sc) (stNames sc scope (ownOf c.N scope)) ifs
      let e ← trE c n (relS scope sc) (stNames sc scope (ownOf c.N scope)) false elt
      if (tgIs t).all (fun j => ((ownOf c.N scope).map (·.2)).contains j) then pure (.lc e t i cs ((ownOf c.N scope).map (·.2))) else none
    else none
def trB (c : TC) : Nat → Scope → List Str → Bool → BoolOp → List Expr → Option Ex
  | 0, _, _, _, _, _ => none
  | n + 1, sc, W, b, o, es => match o, es with
    | _, [a] => trE c n sc W b a
    | .And, a :: d :: r => do
      let a' ← trE c n sc W true a
      let d' ← trB c n sc W b .And (d :: r)
      pure (.and a' d')
    | .Or, a :: d :: r => do
      let a' ← trE c n sc W true a
      let d' ← trB c n sc W b .Or (d :: r)
      pure (.or a' d')
    | _, _ => none
def trT (c : TC) : Nat → Scope → List Str → Expr → Option Ex
  | 0, _, _, _ => none
  | n + 1, sc, W, e => match e with
    | .UnaryOp .Not a _ => do
      let a' ← trT c n sc W a
      pure (.not a')
    | .BoolOp o es _ => trTs c n sc W o es
    | .IfExp .. => none
    | .Compare a [.Is] [.Constant .none _ _] _ => do
      let a' ← trE c n sc W true a
      pure (.cmp .isn a' (.cst .non))
    | .Compare a [.IsNot] [.Constant .none _ _] _ => do
      let a' ← trE c n sc W true a
      pure (.cmp .notn a' (.cst .non))
    | .Compare a [o] [d] _ => do
      let q ← copP o
      let a' ← trE c n sc W true a
      let d' ← trE c n sc W true d
      pure (.cmp q a' d')
    | .Compare a [o, p] [d, e] _ => do
      let q ← copP o
      let r ← copP p
      let a' ← trE c n sc W true a
      let d' ← trE c n sc W true d
      let e' ← trE c n sc W true e
      pure (.chn q r a' d' e')
    | .Compare .. => none
    | e => do
      let x ← trE c n sc W true e
      match x with
        | .and _ _ => none
        | .or _ _ => none
        | .not _ => none
        | .ite _ _ _ => none
        | x => pure x
def trTs (c : TC) : Nat → Scope → List Str → BoolOp → List Expr → Option Ex
  | 0, _, _, _, _ => none
  | n + 1, sc, W, o, es => match o, es with
    | _, [a] => trT c n sc W a
    | .And, a :: d :: r => do
      let a' ← trT c n sc W a
      let d' ← trTs c n sc W .And (d :: r)
      pure (.and a' d')
    | .Or, a :: d :: r => do
      let a' ← trT c n sc W a
      let d' ← trTs c n sc W .Or (d :: r)
      pure (.or a' d')
    | _, _ => none
def trA (c : TC) : Nat → Scope → List Str → List Expr → Option Exs
  | 0, _, _, _ => none
  | n + 1, sc, W, es => match es with
    | [] => some .nil
    | e :: r => do
      let x ← trE c n sc W false e
      let xs ← trA c n sc W r
      pure (.cons x xs)
def trAb (c : TC) : Nat → Scope → List Str → List Expr → Option Exs
  | 0, _, _, _ => none
  | n + 1, sc, W, es => match es with
    | [] => some .nil
    | e :: r => do
      let x ← trE c n sc W true e
      let xs ← trAb c n sc W r
      pure (.cons x xs)
def trK (c : TC) : Nat → Scope → List Str → List Keyword → Option Exs
  | 0, _, _, _ => none
  | n + 1, sc, W, ks => match ks with
    | [] => some .nil
    | ⟨some _, e, _⟩ :: r => do
      let x ← trE c n sc W false e
      let xs ← trK c n sc W r
      pure (.cons x xs)
    | _ => none
def trO (c : TC) : Nat → Scope → List Str → Option Expr → Option Exo
  | 0, _, _, _ => none
  | n + 1, sc, W, e => match e with
    | none => some .none
    | some e => do
      let x ← trE c n sc W true e
      pure (.some x)
def trC (c : TC) : Nat → Scope → List Str → List Expr → Option Exo
  | 0, _, _, _ => none
  | n + 1, sc, W, es => match es with
    | [] => some .none
    | [e] => do
      let x ← trT c n sc W e
      pure (.some x)
    | _ => none
def trI (c : TC) : Nat → Scope → List Str → Expr → Expr → Option Itx
  | 0, _, _, _, _ => none
  | n + 1, sc, W, tg, e => match e with
    | .Call (.Name x _) [a] [] _ => if x = ("range" : Str) && (c.free.contains x && glB sc x) then do
        let a' ← trE c n sc W false a
        pure (.rng1 a')
      else if x = ("enumerate" : Str) && (c.free.contains x && glB sc x) then (match tg with
        | .Tuple _ _ _ => do
          let a' ← trE c n sc W false a
          pure (.enum a')
        | _ => none)
      else do
        let x ← trE c n sc W false e
        pure (.val x)
    | .Call (.Name x _) [a, d] [] _ => if x = ("range" : Str) && (c.free.contains x && glB sc x) then do
        let a' ← trE c n sc W false a
        let d' ← trE c n sc W false d
        pure (.rng2 a' d')
      else if x = ("zip" : Str) && (c.free.contains x && glB sc x) then (match tg with
        | .Tuple _ _ _ => do
          let a' ← trE c n sc W false a
          let d' ← trE c n sc W false d
          pure (.zip a' d')
        | _ => none)
      else do
        let x ← trE c n sc W false e
        pure (.val x)
    | e => do
      let x ← trE c n sc W false e
      pure (.val x)
end
end PF

set_option linter.all false
set_option maxRecDepth 100000
set_option maxHeartbeats 4000000
namespace PF
open PySem PySem.Spec PyProof.Rows L2

/-- what is known of the program where its bodies run, r calls of room below -/
structure TOk (B : Env1) (c : TC) (pg : Pg) (C : Calls) (r : Nat) : Prop where
  cf : CF B pg
  free : ∀ x, c.free.contains x = true → B.L.mg x = none
  fn : ∀ x f, c.fnI.lookup x = some f → B.L.mg x = some (.ref (B.fa f)) ∧ PySem.W.keepIn B.L.K (.ref (B.fa f)) = true ∧ FnG B.L.P B.L.w B.L.K B.L.mg B.L.base r (B.fa f) (B.fd f) (B.ps f) (PrF B (B.ps f).length (C.fn f))
  cl : ∀ x k, c.clI.lookup x = some k → B.L.mg x = some (.ref (B.L.cl k))
  mke : ∀ x k, c.clI.lookup x = some k → ∃ f, Mk B.L.K (B.L.cl k) (B.fa f) ∧ FnG B.L.P B.L.w B.L.K B.L.mg B.L.base r (B.fa f) (B.fd f) (B.ps f) (PrI B (B.ps f).length k (C.new k)) ∧ ∀ n ks sel, c.selM k n ks = some sel → Bd B f (n + 1) ks (.p 0 :: sel.map Sel.up)
  bd : ∀ f n ks sel, c.selF f n ks = some sel → Bd B f n ks sel
  me : ∀ m k f, (pg.cls.getD k default).meths.lookup m = some f → FnG B.L.P B.L.w B.L.K B.L.mg B.L.base r (B.fa f) (B.fd f) (B.ps f) (PrF B (B.ps f).length (C.fn f))
  mb : ∀ m n ks sel, c.selT m n ks = some sel → ∀ k f, (pg.cls.getD k default).meths.lookup m = some f → Bd B f (n + 1) ks (.p 0 :: sel.map Sel.up)
  eqf : EqF B pg C r
  glb : ∀ x v, c.glb.lookup x = some v → ∃ u y, B.L.mg x = some u ∧ glbP v y ∧ RelV y u

theorem SE.up {B : Env1} {X : Cx} {e : Expr} {f : Env → M PV} {b : Bool} (h : SE B X false e f) : SE B X b e f := by
  cases b with
  | false => exact h
  | true => exact ⟨PE_imp h.pe fun σ H Q ⟨Λ, G, H0, ρ, S, sr, er, k⟩ => ⟨Λ, G, H0, ρ, S, sr, er, WP_imp k fun x S' Λ' G' H' _ _ _ q v rv => q v (.inl rv.s)⟩, h.gd⟩

theorem SE.of {B : Env1} {X : Cx} {e : Expr} {f g : Env → M PV} {b : Bool} (h : SE B X b e f) (hf : ∀ ρ, g ρ = f ρ) : SE B X b e g := by
  rw [show g = f from funext hf]; exact h
/-- the soundness of a fuel -/
structure Snd (B : Env1) (c : TC) (pg : Pg) (C : Calls) (r n : Nat) : Prop where
  E : ∀ {X : Cx} {m : Nat} {sc : Scope} {W : List Str} {b : Bool} {e : Expr} {x : Ex}, XOk B m c.N sc W X → r + 1 ≤ m → trE c n sc W b e = some x → SE B X b e (ev pg C x)
  L : ∀ {X : Cx} {m : Nat} {sc : Scope} {W : List Str} {elt tg it : Expr} {ifs : List Expr} {scope : Scope} {x : Ex}, XOk B m c.N sc W X → r + 1 ≤ m → trL c n sc W elt tg it ifs scope = some x → LcOk B X elt tg it ifs scope (ownOf c.N scope) (ev pg C x)
  Bo : ∀ {X : Cx} {m : Nat} {sc : Scope} {W : List Str} {b : Bool} {o : BoolOp} {es : List Expr} {x : Ex} {pos : Pos}, XOk B m c.N sc W X → r + 1 ≤ m → trB c n sc W b o es = some x → SE B X b (.BoolOp o es pos) (ev pg C x)
  T : ∀ {X : Cx} {m : Nat} {sc : Scope} {W : List Str} {e : Expr} {x : Ex}, XOk B m c.N sc W X → r + 1 ≤ m → trT c n sc W e = some x → PT X e (tT B X (evT pg C x))
  Ts : ∀ {X : Cx} {m : Nat} {sc : Scope} {W : List Str} {o : BoolOp} {es : List Expr} {x : Ex} {pos : Pos}, XOk B m c.N sc W X → r + 1 ≤ m → trTs c n sc W o es = some x → PW X (.BoolOp o es pos) (tT B X (evT pg C x))
  A : ∀ {X : Cx} {m : Nat} {sc : Scope} {W : List Str} {es : List Expr} {x : Exs}, XOk B m c.N sc W X → r + 1 ≤ m → trA c n sc W es = some x → SG B X es (evs pg C x)
  Ab : ∀ {X : Cx} {m : Nat} {sc : Scope} {W : List Str} {es : List Expr} {x : Exs}, XOk B m c.N sc W X → r + 1 ≤ m → trAb c n sc W es = some x → SB B X es (evs pg C x)
  K : ∀ {X : Cx} {m : Nat} {sc : Scope} {W : List Str} {kws : List Keyword} {ks : List Str} {x : Exs}, XOk B m c.N sc W X → r + 1 ≤ m → kwN kws = some ks → trK c n sc W kws = some x → SK B X kws ks (evs pg C x)
  O : ∀ {X : Cx} {m : Nat} {sc : Scope} {W : List Str} {e : Option Expr} {x : Exo}, XOk B m c.N sc W X → r + 1 ≤ m → trO c n sc W e = some x → PO X e (tOI B X (evo pg C x))
  Cs : ∀ {X : Cx} {m : Nat} {sc : Scope} {W : List Str} {es : List Expr} {x : Exo}, XOk B m c.N sc W X → r + 1 ≤ m → trC c n sc W es = some x → PTs X es (tT0 B (evc pg C x))
  I : ∀ {X : Cx} {m : Nat} {sc : Scope} {W : List Str} {tg e : Expr} {x : Itx}, XOk B m c.N sc W X → r + 1 ≤ m → trI c n sc W tg e = some x → SI B X tg e (evI pg C x)

section
variable {B : Env1} {c : TC} {pg : Pg} {C : Calls} {r n : Nat} {X : Cx} {m : Nat} {sc : Scope} {W : List Str}
theorem ob {α β : Type} {o : Option α} {f : α → Option β} {y : β} (h : (do let x ← o; f x) = some y) : ∃ x, o = some x ∧ f x = some y := Option.bind_eq_some_iff.mp h
theorem ty1_ok (T : TOk B c pg C r) (ok : XOk B m c.N sc W X) {e : Expr} {t : Ty} (h : ty1 c sc e = some t) : STy B X e t := by
  cases e <;> first | (cases h; done) | skip
  rename_i x p
  simp only [ty1] at h
  split at h
  · rename_i hx
    rw [Bool.and_eq_true] at hx
    have hd := okn_ok hx.1
    have hg := gl_ok hx.2
    split at h
    · rename_i hf
      obtain ⟨T0, h1, h2⟩ := Option.map_eq_some_iff.mp h
      subst h2
      unfold tyOfN at h1
      have e1 := List.find?_some h1
      have e2 := List.mem_of_find?_eq_some h1
      have e3 := of_decide_eq_true e1
      obtain ⟨b1, b2⟩ := boot_tys T0 e2
      exact sty_b ok hg (T.free _ hf) (by rw [e3]; exact b1) (by rw [e3]; exact b2) hd.1
    · obtain ⟨k, h1, h2⟩ := Option.map_eq_some_iff.mp h
      subst h2
      exact sty_c ok hg (T.cl _ _ h1) hd.1
  · cases h
theorem tyL_ok (T : TOk B c pg C r) (ok : XOk B m c.N sc W X) : ∀ {es : List Expr} {ts : List Ty}, tyL c sc es = some ts → (PA X es fun _ H Q => Q (ts.map (tyVV B)) H) ∧ es.all gd = true
  | [], ts, h => by cases h; exact ⟨sis_nil, rfl⟩
  | e :: es, ts, h => by
    unfold tyL at h
    obtain ⟨t, h1, h⟩ := ob h
    obtain ⟨us, h2, h⟩ := ob h
    cases h
    obtain ⟨a, b⟩ := tyL_ok T ok h2
    have s := ty1_ok T ok h1
    exact ⟨sis_cons s a, by rw [List.all_cons, s.gd, b]; rfl⟩
theorem tys_ok (T : TOk B c pg C r) (ok : XOk B m c.N sc W X) {e : Expr} {ts : List Ty} (h : tys c sc e = some ts) : SIs B X e ts := by
  have one : (ty1 c sc e).map (fun t => [t]) = some ts → SIs B X e ts := fun h => by
    obtain ⟨t, h1, h2⟩ := Option.map_eq_some_iff.mp h
    subst h2
    exact .one (ty1_ok T ok h1)
  cases e with
  | Tuple es k p =>
    unfold tys at h
    obtain ⟨us, h1, h⟩ := ob h
    split at h
    · rename_i hc
      cases h
      rw [Bool.and_eq_true, decide_eq_true_eq, Bool.not_eq_true'] at hc
      obtain ⟨a, b⟩ := tyL_ok T ok h1
      exact .tup a b hc.1 (fun z => by rw [z] at hc; cases hc.2)
    · cases h
  | _ => exact one h

theorem snd_E (T : TOk B c pg C r) (I : Snd B c pg C r n) {b : Bool} {e : Expr} {x : Ex} (ok : XOk B m c.N sc W X) (hr : r + 1 ≤ m) (h : trE c (n + 1) sc W b e = some x) : SE B X b e (ev pg C x) := by
  unfold trE at h
  split at h
  -- constants
  · obtain ⟨v, h1, rfl⟩ := Option.map_eq_some_iff.mp h
    exact SE.of (snd_cst h1).up fun _ => rfl
  -- names
  · split at h
    · rename_i hn
      have hd := okn_ok hn
      split at h
      · rename_i hv
        obtain ⟨i, h1, h2⟩ := Option.map_eq_some_iff.mp h
        subst h2
        cases b with
        | true => exact SE.of (snd_bor ok (ix_ok h1) (vis_ok hv) hd.1 hd.2) fun _ => rfl
        | false => exact SE.of (snd_var ok (ix_ok h1) (vis_ok hv) hd.1 hd.2) fun _ => rfl
      · split at h
        · rename_i hg
          obtain ⟨v, h1, rfl⟩ := Option.map_eq_some_iff.mp h
          obtain ⟨u, y, g1, g2, g3⟩ := T.glb _ _ h1
          exact SE.of (snd_glb ok (gl_ok hg) g1 g2 g3 hd.1).up fun _ => rfl
        · cases h
    · cases h
  -- operators
  · obtain ⟨q, h1, h⟩ := ob h
    obtain ⟨a', h2, h⟩ := ob h
    obtain ⟨d', h3, h⟩ := ob h
    cases h
    rw [← opP_ok h1]
    exact SE.of (snd_bin ok q (I.E ok hr h2) (I.E ok hr h3)).up fun _ => rfl
  · obtain ⟨a', h2, h⟩ := ob h
    cases h
    exact SE.of (snd_neg (I.E ok hr h2)).up fun _ => rfl
  · obtain ⟨a', h2, h⟩ := ob h
    cases h
    exact SE.of (snd_not ok (I.E ok hr h2)).up fun _ => rfl
  · exact I.Bo ok hr h
  · obtain ⟨t', h1, h⟩ := ob h
    obtain ⟨a', h2, h⟩ := ob h
    obtain ⟨d', h3, h⟩ := ob h
    cases h
    exact SE.of (snd_ite (I.T ok hr h1) (I.E ok hr h2) (I.E ok hr h3)) fun _ => rfl
  -- comparisons
  · obtain ⟨a', h2, h⟩ := ob h
    cases h
    exact SE.of (snd_isn (I.E ok hr h2)).up fun _ => rfl
  · obtain ⟨a', h2, h⟩ := ob h
    cases h
    exact SE.of (snd_notn (I.E ok hr h2)).up fun _ => rfl
  · obtain ⟨q, h1, h⟩ := ob h
    obtain ⟨a', h2, h⟩ := ob h
    obtain ⟨d', h3, h⟩ := ob h
    cases h
    obtain ⟨e1, e2, e3⟩ := copP_ok h1
    rw [← e1]
    have s := snd_cmpM ok T.cf T.eqf hr ⟨e2, e3⟩ (I.E ok hr h2) (I.E ok hr h3) (pos := by assumption)
    cases q <;> first | exact absurd rfl e2 | exact absurd rfl e3 | exact SE.of s.up (fun _ => rfl)
  · obtain ⟨q, h1, h⟩ := ob h
    obtain ⟨q2, h4, h⟩ := ob h
    obtain ⟨a', h2, h⟩ := ob h
    obtain ⟨d', h3, h⟩ := ob h
    obtain ⟨e', h5, h⟩ := ob h
    cases h
    obtain ⟨e1, e2, e3⟩ := copP_ok h1
    obtain ⟨e4, e5, e6⟩ := copP_ok h4
    rw [← e1, ← e4]
    exact SE.of (snd_chn ok ⟨e2, e3⟩ ⟨e5, e6⟩ (I.E ok hr h2) (I.E ok hr h3) (I.E ok hr h5)).up fun _ => rfl
  -- displays
  · obtain ⟨xs, h1, h⟩ := ob h
    cases h
    exact SE.of (snd_tup (I.A ok hr h1).sa).up fun _ => rfl
  · obtain ⟨xs, h1, h⟩ := ob h
    cases h
    exact SE.of (snd_lst (I.A ok hr h1).sa).se.up fun _ => rfl
  -- subscripts
  · obtain ⟨a', h1, h⟩ := ob h
    obtain ⟨l, h2, h⟩ := ob h
    obtain ⟨h', h3, h⟩ := ob h
    cases h
    exact SE.of (snd_slc ok (I.E ok hr h1) (I.O ok hr h2) (I.O ok hr h3)).up fun _ => rfl
  · obtain ⟨a', h1, h⟩ := ob h
    obtain ⟨i', h2, h⟩ := ob h
    cases h
    exact SE.of (snd_idx ok (I.E ok hr h1) (I.E ok hr h2)).up fun _ => rfl
  · split at h
    · rename_i hx
      rw [Bool.and_eq_true] at hx
      have hd := okn_ok hx.1
      obtain ⟨i, hi, h2⟩ := Option.map_eq_some_iff.mp h
      cases h2
      exact SE.of (snd_atO ok T.cf (ix_ok hi) (vis_ok hx.2) hd.1 hd.2).up fun _ => rfl
    · cases h
  · split at h
    · rename_i hs
      obtain ⟨a', h1, h⟩ := ob h
      cases h
      exact SE.of (snd_att ok T.cf (I.E ok hr h1) hs).up fun _ => rfl
    · cases h
  -- calls
  · split at h
    · rename_i hx
      rw [Bool.and_eq_true] at hx
      have hd := okn_ok hx.1
      have hg := gl_ok hx.2
      split at h
      · rename_i hf
        have hm := T.free _ hf
        split at h
        · rename_i hi
          split at h
          · obtain ⟨a', h1, h⟩ := ob h
            obtain ⟨ts, h2, h⟩ := ob h
            cases h
            exact SE.of (snd_isi ok T.cf hi hg hm (I.E ok hr h1) (tys_ok T ok h2)).up fun _ => rfl
          · cases h
        · split at h
          · obtain ⟨q, h1, h⟩ := ob h
            obtain ⟨xs, h2, h⟩ := ob h
            cases h
            exact SE.of (snd_bif ok q (bifOf_ok h1) hg hm (I.Ab ok hr h2)).up fun _ => rfl
          · cases h
      · split at h
        · rename_i f hf
          obtain ⟨xs, h1, h⟩ := ob h
          obtain ⟨ks, h2, h⟩ := ob h
          obtain ⟨ys, h3, h⟩ := ob h
          obtain ⟨sel, h4, h⟩ := ob h
          cases h
          obtain ⟨t1, t2, t3⟩ := T.fn _ _ hf
          exact SE.of (snd_call ok t3 (by omega) (T.bd _ _ _ _ h4) hg t1 t2 hd.1 (I.A ok hr h1) (I.K ok hr h2 h3)).up fun _ => rfl
        · obtain ⟨k, h0, h⟩ := ob h
          obtain ⟨xs, h1, h⟩ := ob h
          obtain ⟨ks, h2, h⟩ := ob h
          obtain ⟨ys, h3, h⟩ := ob h
          obtain ⟨sel, h4, h⟩ := ob h
          cases h
          obtain ⟨f, t1, t2, t3⟩ := T.mke _ _ h0
          exact SE.of (snd_make ok t1 t2 hr (t3 _ _ _ h4) hg (T.cl _ _ h0) hd.1 (I.A ok hr h1) (I.K ok hr h2 h3)).up fun _ => rfl
    · cases h
  · split at h
    · rename_i hx
      rw [Bool.and_eq_true, Bool.and_eq_true, decide_eq_true_eq] at hx
      obtain ⟨o', h1, h⟩ := ob h
      obtain ⟨xs, h2, h⟩ := ob h
      obtain ⟨ks, h4, h⟩ := ob h
      obtain ⟨ys, h5, h⟩ := ob h
      obtain ⟨sel, h3, h⟩ := ob h
      cases h
      exact SE.of (snd_meth ok T.cf (F := C.fn) (fun k f hk => ⟨T.me _ k f hk, T.mb _ _ _ _ h3 k f hk⟩) (by omega) hx.1.1 hx.1.2 hx.2 (I.E ok hr h1) (I.A ok hr h2) (I.K ok hr h4 h5)).up fun _ => rfl
    · cases h
  · split at h
    · rename_i hk
      subst hk
      exact (sf_lc ok (I.L ok hr h)).se.up
    · cases h
  · cases h

theorem snd_L (T : TOk B c pg C r) (I : Snd B c pg C r n) {elt tg it : Expr} {ifs : List Expr} {scope : Scope} {x : Ex} (ok : XOk B m c.N sc W X) (hr : r + 1 ≤ m) (h : trL c (n + 1) sc W elt tg it ifs scope = some x) : LcOk B X elt tg it ifs scope (ownOf c.N scope) (ev pg C x) := by
  unfold trL at h
  split at h
  · rename_i hb
    obtain ⟨t, h1, h⟩ := ob h
    obtain ⟨i, h2, h⟩ := ob h
    obtain ⟨cs, h3, h⟩ := ob h
    obtain ⟨e, h4, h⟩ := ob h
    split at h
    · rename_i hv
      cases h
      have okb := fun s H C0 cl fp => ok.blk (scope := scope) (W' := stNames sc scope (ownOf c.N scope)) (stNames_ok) s H C0 cl fp
      have hi := I.I ok hr h2
      have ef : ev pg C (.lc e t i cs ((ownOf c.N scope).map (·.2))) = lcE (evI pg C i) t ((ownOf c.N scope).map (·.2)) (evc pg C cs) (ev pg C e) := funext fun ρ => rfl
      rw [ef]
      exact ⟨snd_lc ok (pos := ⟨0, 0, 0, 0⟩) hi hb hv (fun s H C0 cl fp => tg_ok (okb s H C0 cl fp) h1) (fun s H C0 cl fp => I.Cs (okb s H C0 cl fp) hr h3) (fun s H C0 cl fp => pe0 (I.E (okb s H C0 cl fp) hr h4)), hi.gd, fun ρ S x S' => lcE_lst ρ S x S'⟩
    · cases h
  · cases h
theorem snd_Bo (I : Snd B c pg C r n) {b : Bool} {o : BoolOp} {es : List Expr} {x : Ex} {pos : Pos} (ok : XOk B m c.N sc W X) (hr : r + 1 ≤ m) (h : trB c (n + 1) sc W b o es = some x) : SE B X b (.BoolOp o es pos) (ev pg C x) := by
  unfold trB at h
  split at h
  · exact snd_one (I.E ok hr h)
  · obtain ⟨a', h1, h⟩ := ob h
    obtain ⟨d', h2, h⟩ := ob h
    cases h
    exact SE.of (snd_and (I.E ok hr h1) (I.Bo ok hr h2)) fun _ => rfl
  · obtain ⟨a', h1, h⟩ := ob h
    obtain ⟨d', h2, h⟩ := ob h
    cases h
    exact SE.of (snd_or (I.E ok hr h1) (I.Bo ok hr h2)) fun _ => rfl
  · cases h
theorem PT.of {e : Expr} {f g : Env → M Bool} (h : PT X e (tT B X f)) (hf : ∀ ρ, g ρ = f ρ) : PT X e (tT B X g) := by
  rw [show g = f from funext hf]; exact h
theorem PW.of {e : Expr} {f g : Env → M Bool} (h : PW X e (tT B X f)) (hf : ∀ ρ, g ρ = f ρ) : PW X e (tT B X g) := by
  rw [show g = f from funext hf]; exact h
theorem evT_plain {x : Ex} (h : (match x with
    | .and _ _ => none
    | .or _ _ => none
    | .not _ => none
    | .ite _ _ _ => none
    | x => pure x : Option Ex) = some x) (ρ : Env) : evT pg C x ρ = bnd (ev pg C x ρ) fun y => opt (truP y) := by
  cases x <;> first | (cases h; done) | rfl
theorem evT_cmp {o : Cop} {a d : Ex} (ρ : Env) : evT pg C (.cmp o a d) ρ = bnd (ev pg C (.cmp o a d) ρ) fun y => opt (truP y) := rfl
theorem evT_chn {o p : Cop} {a d e : Ex} (ρ : Env) : evT pg C (.chn o p a d e) ρ = bnd (ev pg C (.chn o p a d e) ρ) fun y => opt (truP y) := rfl
theorem snd_T (T : TOk B c pg C r) (I : Snd B c pg C r n) {e : Expr} {x : Ex} (ok : XOk B m c.N sc W X) (hr : r + 1 ≤ m) (h : trT c (n + 1) sc W e = some x) : PT X e (tT B X (evT pg C x)) := by
  unfold trT at h
  split at h
  · obtain ⟨a', h1, h⟩ := ob h
    cases h
    exact PT.of (pt_notT (I.T ok hr h1)) fun _ => rfl
  · exact (I.Ts ok hr h).pt
  · cases h
  · obtain ⟨a', h1, h⟩ := ob h
    cases h
    exact PT.of (pt_isS (I.E ok hr h1)) fun ρ => rfl
  · obtain ⟨a', h1, h⟩ := ob h
    cases h
    exact PT.of (pt_notS (I.E ok hr h1)) fun ρ => rfl
  · obtain ⟨q, h1, h⟩ := ob h
    obtain ⟨a', h2, h⟩ := ob h
    obtain ⟨d', h3, h⟩ := ob h
    cases h
    obtain ⟨e1, e2, e3⟩ := copP_ok h1
    rw [← e1]
    have s := pt_cmpM ok T.cf T.eqf hr ⟨e2, e3⟩ (I.E ok hr h2) (I.E ok hr h3) (pos := by assumption)
    cases q <;> first | exact absurd rfl e2 | exact absurd rfl e3 | exact PT.of s (fun ρ => rfl)
  · obtain ⟨q, h1, h⟩ := ob h
    obtain ⟨q2, h4, h⟩ := ob h
    obtain ⟨a', h2, h⟩ := ob h
    obtain ⟨d', h3, h⟩ := ob h
    obtain ⟨e', h5, h⟩ := ob h
    cases h
    obtain ⟨e1, e2, e3⟩ := copP_ok h1
    obtain ⟨e4, e5, e6⟩ := copP_ok h4
    rw [← e1, ← e4]
    exact PT.of (pt_chnS ok ⟨e2, e3⟩ ⟨e5, e6⟩ (I.E ok hr h2) (I.E ok hr h3) (I.E ok hr h5)) fun ρ => rfl
  · cases h
  · rename_i e0 n1 n2 n3 n4 n5 n6 n7 n8
    obtain ⟨y, h1, h⟩ := ob h
    have hp : plainT e = true := by
      cases e with
      | UnaryOp o a p =>
        cases o with
        | Not => exact absurd rfl (n1 _ _)
        | _ => rfl
      | BoolOp o es p => exact absurd rfl (n2 _ _ _)
      | IfExp t a d p => exact absurd rfl (n3 _ _ _ _)
      | Compare a os ds p => exact absurd rfl (n8 _ _ _ _)
      | _ => rfl
    have hy : y = x := by cases y <;> cases h <;> rfl
    subst hy
    exact PT.of (pt_plain ok hp (I.E ok hr h1)) fun ρ => evT_plain h ρ
theorem snd_Ts (I : Snd B c pg C r n) {o : BoolOp} {es : List Expr} {x : Ex} {pos : Pos} (ok : XOk B m c.N sc W X) (hr : r + 1 ≤ m) (h : trTs c (n + 1) sc W o es = some x) : PW X (.BoolOp o es pos) (tT B X (evT pg C x)) := by
  unfold trTs at h
  split at h
  · cases o with
    | And => exact pw_and1 (I.T ok hr h)
    | Or => exact pw_or1 (I.T ok hr h)
  · obtain ⟨a', h1, h⟩ := ob h
    obtain ⟨d', h2, h⟩ := ob h
    cases h
    exact PW.of (pw_andS (I.T ok hr h1) (I.Ts ok hr h2)) fun _ => rfl
  · obtain ⟨a', h1, h⟩ := ob h
    obtain ⟨d', h2, h⟩ := ob h
    cases h
    exact PW.of (pw_orS (I.T ok hr h1) (I.Ts ok hr h2)) fun _ => rfl
  · cases h
theorem snd_A (I : Snd B c pg C r n) {es : List Expr} {x : Exs} (ok : XOk B m c.N sc W X) (hr : r + 1 ≤ m) (h : trA c (n + 1) sc W es = some x) : SG B X es (evs pg C x) := by
  unfold trA at h
  split at h
  · cases h
    rw [show evs pg C .nil = fun _ => ret [] from funext fun _ => rfl]
    exact sg_nil
  · obtain ⟨y, h1, h⟩ := ob h
    obtain ⟨ys, h2, h⟩ := ob h
    cases h
    rw [show evs pg C (.cons y ys) = fun ρ => bnd (ev pg C y ρ) fun x => bnd (evs pg C ys ρ) fun xs => ret (x :: xs) from funext fun _ => rfl]
    exact sg_cons (I.E ok hr h1) (I.A ok hr h2)
theorem snd_Ab (I : Snd B c pg C r n) {es : List Expr} {x : Exs} (ok : XOk B m c.N sc W X) (hr : r + 1 ≤ m) (h : trAb c (n + 1) sc W es = some x) : SB B X es (evs pg C x) := by
  unfold trAb at h
  split at h
  · cases h
    rw [show evs pg C .nil = fun _ => ret [] from funext fun _ => rfl]
    exact sb_nil
  · obtain ⟨y, h1, h⟩ := ob h
    obtain ⟨ys, h2, h⟩ := ob h
    cases h
    rw [show evs pg C (.cons y ys) = fun ρ => bnd (ev pg C y ρ) fun x => bnd (evs pg C ys ρ) fun xs => ret (x :: xs) from funext fun _ => rfl]
    exact sb_cons (I.E ok hr h1) (I.Ab ok hr h2)
theorem snd_K (I : Snd B c pg C r n) {kws : List Keyword} {ks : List Str} {x : Exs} (ok : XOk B m c.N sc W X) (hr : r + 1 ≤ m) (hk : kwN kws = some ks) (h : trK c (n + 1) sc W kws = some x) : SK B X kws ks (evs pg C x) := by
  unfold trK at h
  split at h
  · cases h
    cases hk
    rw [show evs pg C .nil = fun _ => ret [] from funext fun _ => rfl]
    exact sk_nil
  · obtain ⟨y, h1, h⟩ := ob h
    obtain ⟨ys, h2, h⟩ := ob h
    cases h
    rw [show evs pg C (.cons y ys) = fun ρ => bnd (ev pg C y ρ) fun x => bnd (evs pg C ys ρ) fun xs => ret (x :: xs) from funext fun _ => rfl]
    obtain ⟨ks2, k1, k2⟩ := Option.map_eq_some_iff.mp (show (kwN _).map (_ :: ·) = some ks from hk)
    subst k2
    exact sk_cons (I.E ok hr h1) (I.K ok hr k1 h2)
  · cases h
theorem snd_O (I : Snd B c pg C r n) {e : Option Expr} {x : Exo} (ok : XOk B m c.N sc W X) (hr : r + 1 ≤ m) (h : trO c (n + 1) sc W e = some x) : PO X e (tOI B X (evo pg C x)) := by
  unfold trO at h
  split at h
  · cases h
    rw [show evo pg C .none = fun _ => ret none from funext fun _ => rfl]
    exact snd_onone
  · obtain ⟨y, h1, h⟩ := ob h
    cases h
    rw [show evo pg C (.some y) = fun ρ => bnd (ev pg C y ρ) fun x => bnd (opt (toI x)) fun i => ret (some i) from funext fun _ => rfl]
    exact snd_osome (I.E ok hr h1)
theorem snd_Cs (I : Snd B c pg C r n) {es : List Expr} {x : Exo} (ok : XOk B m c.N sc W X) (hr : r + 1 ≤ m) (h : trC c (n + 1) sc W es = some x) : PTs X es (tT0 B (evc pg C x)) := by
  unfold trC at h
  split at h
  · cases h
    refine ⟨fun pins s σ H Q J ⟨Λ, G, H0, ρ, S, k, S', sr, er, e, q⟩ => pts_nil.run pins s σ H Q J ?_⟩
    cases e
    exact q Λ G H .refl sr
  · obtain ⟨y, h1, h⟩ := ob h
    cases h
    have p := pts_one (pt0 (I.T ok hr h1))
    rw [show evc pg C (.some y) = evT pg C y from funext fun _ => rfl]
    exact p
  · cases h
theorem SI.of {tg e : Expr} {f g : Env → M (List PV)} (h : SI B X tg e f) (hf : ∀ ρ, g ρ = f ρ) : SI B X tg e g := by
  rw [show g = f from funext hf]; exact h
theorem evI_val {y : Ex} (ρ : Env) : evI pg C (.val y) ρ = bnd (ev pg C y ρ) itV := by
  rfl
theorem snd_I (T : TOk B c pg C r) (I : Snd B c pg C r n) {tg e : Expr} {x : Itx} (ok : XOk B m c.N sc W X) (hr : r + 1 ≤ m) (h : trI c (n + 1) sc W tg e = some x) : SI B X tg e (evI pg C x) := by
  have plain : ∀ {e : Expr} {x : Itx}, (do let y ← trE c n sc W false e; pure (Itx.val y)) = some x → SI B X tg e (evI pg C x) := fun {e x} h => by
    obtain ⟨y, h1, h⟩ := ob h
    cases h
    exact SI.of (si_val ok (I.E ok hr h1)) evI_val
  unfold trI at h
  split at h
  · split at h
    · rename_i hx
      simp only [Bool.and_eq_true, decide_eq_true_eq] at hx
      obtain ⟨e0, h2, h3⟩ := hx
      subst e0
      obtain ⟨a', h1, h⟩ := ob h
      cases h
      exact SI.of (si_rng1 ok (gl_ok h3) (T.free _ h2) (I.E ok hr h1)) fun ρ => rfl
    · split at h
      · rename_i hx
        simp only [Bool.and_eq_true, decide_eq_true_eq] at hx
        obtain ⟨e0, h2, h3⟩ := hx
        subst e0
        split at h
        · obtain ⟨a', h1, h⟩ := ob h
          cases h
          exact SI.of (si_enum ok (gl_ok h3) (T.free _ h2) (I.E ok hr h1)) fun ρ => rfl
        · cases h
      · exact plain h
  · split at h
    · rename_i hx
      simp only [Bool.and_eq_true, decide_eq_true_eq] at hx
      obtain ⟨e0, h2, h3⟩ := hx
      subst e0
      obtain ⟨a', h1, h⟩ := ob h
      obtain ⟨d', h4, h⟩ := ob h
      cases h
      exact SI.of (si_rng2 ok (gl_ok h3) (T.free _ h2) (I.E ok hr h1) (I.E ok hr h4)) fun ρ => rfl
    · split at h
      · rename_i hx
        simp only [Bool.and_eq_true, decide_eq_true_eq] at hx
        obtain ⟨e0, h2, h3⟩ := hx
        subst e0
        split at h
        · obtain ⟨a', h1, h⟩ := ob h
          obtain ⟨d', h4, h⟩ := ob h
          cases h
          exact SI.of (si_zip ok (gl_ok h3) (T.free _ h2) (I.E ok hr h1) (I.E ok hr h4)) fun ρ => rfl
        · cases h
      · exact plain h
  · exact plain h
/-- THE EXPRESSIONS -/
theorem snd_all (T : TOk B c pg C r) : ∀ n, Snd B c pg C r n
  | 0 => ⟨(fun _ _ h => nomatch h), (fun _ _ h => nomatch h), (fun _ _ h => nomatch h), (fun _ _ h => nomatch h), (fun _ _ h => nomatch h), (fun _ _ h => nomatch h), (fun _ _ h => nomatch h), (fun _ _ _ h => nomatch h), (fun _ _ h => nomatch h), (fun _ _ h => nomatch h), fun _ _ h => nomatch h⟩
  | n + 1 => ⟨snd_E T (snd_all T n), snd_L T (snd_all T n), snd_Bo (snd_all T n), snd_T T (snd_all T n), snd_Ts (snd_all T n), snd_A (snd_all T n), snd_Ab (snd_all T n), snd_K (snd_all T n), snd_O (snd_all T n), snd_Cs (snd_all T n), snd_I T (snd_all T n)⟩
end
end PF

set_option linter.all false
set_option maxRecDepth 100000
set_option maxHeartbeats 4000000
namespace PF
open PySem PySem.Spec PyProof.Rows L2

/-! ### stores that go side by side -/
def isTup : Expr → Bool
  | .Tuple .. => true
  | _ => false
theorem sw_noTup {tg e : Expr} {env : PySem.Env} (h : isTup e = false) : swappedStores [tg] e env = pure none := by
  cases e <;> first | (cases h; done) | (cases tg <;> rfl)
theorem sw_folded {ts vs : List Expr} {k k2 : Nat} {p p2 : Pos} {env : PySem.Env} (h : vs.all (foldedForSure 8) = true) : swappedStores [.Tuple ts k p] (.Tuple vs k2 p2) env = pure none := by
  unfold swappedStores
  dsimp only
  rw [if_pos h]
  repeat' split
  all_goals rfl
/-- no local name of the block -/
def nonLoc (sc : Scope) : Expr → Bool
  | .Name x _ => !(decide (sc.names.lookup x = some .local))
  | _ => true
def nmL (env : PySem.Env) (line : Nat) (e : Expr) : Option Str := match e with
  | .Name id pos => if env.kindOf id == some .local && pos.line == line then some id else none
  | _ => none
theorem nmL_non {env : PySem.Env} {line : Nat} {e : Expr} (h : nonLoc env.scope e = true) : nmL env line e = none := by
  cases e <;> first | rfl | skip
  rename_i x pos
  unfold nmL
  dsimp only
  split
  · rename_i w
    rw [Bool.and_eq_true] at w
    have w2 : env.scope.names.lookup x = some .local := beq_iff_eq.mp w.1
    have h : (!(decide (env.scope.names.lookup x = some .local))) = true := h
    rw [w2] at h
    cases h
  · rfl
theorem nmL_lt {env : PySem.Env} {line : Nat} : ∀ {ts : List Expr}, ts.any (nonLoc env.scope) = true → (ts.filterMap (nmL env line)).length < ts.length
  | [], h => by cases h
  | e :: ts, h => by
    have le := List.length_filterMap_le (nmL env line) ts
    rw [List.any_cons, Bool.or_eq_true] at h
    rw [List.filterMap_cons]
    rcases h with h | h
    · rw [nmL_non h]
      simp only [List.length_cons]
      omega
    · have ih := nmL_lt (line := line) h
      split
      · simp only [List.length_cons]; omega
      · simp only [List.length_cons]; omega
theorem sw_non {ts vs : List Expr} {k k2 : Nat} {p p2 : Pos} {env : PySem.Env} (h : ts.any (nonLoc env.scope) = true) : swappedStores [.Tuple ts k p] (.Tuple vs k2 p2) env = pure none := by
  unfold swappedStores
  dsimp only
  split
  · rfl
  · split
    · rfl
    · have z : (ts.filterMap (nmL env ((ts.head?.map (·.pos.line)).getD 0))).length < ts.length := nmL_lt h
      refine if_pos ?_
      rw [Bool.or_eq_true]
      refine .inl ?_
      rw [bne_iff_ne]
      exact Nat.ne_of_lt z
theorem sw_par {x y : Str} {px py pt p2 : Pos} {k k2 : Nat} {a b : Expr} {env : PySem.Env} (hk : env.scope.kind = .function) (hx : env.scope.names.lookup x = some .local) (hy : env.scope.names.lookup y = some .local) (hxy : (x == y) = false) (hl : (py.line == px.line) = true)
    (ha : gd a = true) (hb : gd b = true) (h1 : [a, b].all (foldedForSure 8) = false) (h2 : [a, b].all (constantsAlone 8) = false) : swappedStores [.Tuple [.Name x px, .Name y py] k pt] (.Tuple [a, b] k2 p2) env = pure (some [x, y]) := by
  have kx : env.kindOf x = some .local := hx
  have ky : env.kindOf y = some .local := hy
  have hf : env.blockKind = .function := by unfold Env.blockKind; rw [hk]; rfl
  have hl2 : py.line = px.line := by simpa using hl
  have hst : ([a, b].any fun | .Starred .. => true | _ => false) = false := by
    cases a <;> first | (cases ha; done) | (cases b <;> first | (cases hb; done) | rfl)
  have hyx : (y == x) = false := by
    cases e : (y == x) with
    | false => rfl
    | true => rw [beq_iff_eq.mp e] at hxy; simp at hxy
  unfold swappedStores
  simp [hf, kx, ky, hl2, Expr.pos, hst, h1, h2, List.eraseDups_cons, hyx]
  intro q
  exfalso
  rcases q with q | q
  · cases a <;> first | (cases q; done) | (cases ha; done)
  · cases b <;> first | (cases q; done) | (cases hb; done)

/-! ### lists of one's own -/
theorem snd_listF {B : Env1} {X : Cx} {n : Nat} {N W : List Str} {sc : Scope} {x : Str} {p pos : Pos} {e : Expr} {fs : Env → M (List PV)} (ok : XOk B n N sc W X) (hx : x = "list") (hg : sc.names.lookup x = some .globalImplicit) (hm : B.L.mg x = none) (ha : SB B X [e] fs) :
    SF B X (.Call (.Name x p) [e] [] pos) (fun ρ => bnd (fs ρ) fun xs => opt (bifP .list xs)) := by
  subst hx
  have g := ha.gd
  rw [List.all_cons, Bool.and_eq_true] at g
  refine ⟨PE_imp (pe_callTy call_list_of (gl_of ok hg) (by rw [ok.mg]; exact hm) (by decide +kernel) ha.pa (by decide) (by decide) (star_cons g.1) rfl) fun σ H Q ⟨Λ, G, H0, ρ, S, sr, er, h⟩ => ⟨Λ, G, H0, ρ, S, sr, er, WP_imp (WP_bnd h) fun xs S1 Λ1 G1 H1 _ t1 s1 h1 vs rvs => ?_⟩, fun ρ S x S' h => ?_, rfl⟩
  · obtain ⟨z, e, h2⟩ := WP_opt h1
    have key : ∀ {y : PV} {ys : List PV}, xs = [y] → (y = .lst ys ∨ y = .tup ys) → z = .lst ys → ∃ q ws, vs = [.ref q] ∧ (SqL X.K H1 q ws ∨ SqT X.K H1 q ws) ∧ ∀ l, H1 l = none → Q (.ref l) (upd H1 l (.lst ws)) := fun {y ys} e1 e2 e3 => by
      subst e1
      obtain ⟨v, rfl, r⟩ := bl1 rvs
      rcases e2 with rfl | rfl
      · obtain ⟨q, ws, rfl, h3, t⟩ := r.lst s1.sub
        exact ⟨q, ws, rfl, .inl (SqL.of h3), fun l hl => h2 _ _ _ (.laidO hl) (s1.laidO hl) ys l ws e3 (t1.th l hl) upd_same t (s1.sub.none hl) fun w => s1.ne hl w rfl⟩
      · obtain ⟨q, ws, rfl, h3, t⟩ := r.tup s1.sub
        exact ⟨q, ws, rfl, .inr (by rw [ok.K]; exact h3), fun l hl => h2 _ _ _ (.laidO hl) (s1.laidO hl) ys l ws e3 (t1.th l hl) upd_same t (s1.sub.none hl) fun w => s1.ne hl w rfl⟩
    match xs, e with
    | [.lst ys], e => exact key rfl (.inl rfl) (by cases e; rfl)
    | [.tup ys], e => exact key rfl (.inr rfl) (by cases e; rfl)
  · obtain ⟨xs, S1, h1, h2⟩ := bnd_ok h
    obtain ⟨h3, _⟩ := opt_ok h2
    match xs, h3 with
    | [.lst ys], h3 => exact ⟨ys, by cases h3; rfl⟩
    | [.tup ys], h3 => exact ⟨ys, by cases h3; rfl⟩

/-! ### statements of the text -/
/-- what is told of one def: the slots that keep lists of their own, where slots are frozen, whether a list display that is handed back joins the store -/
structure SC where
  own : List Nat := []
  frz : List (Nat × List Nat) := []
  new : Bool := false
def stLine : Stmt → Nat
  | .Return _ p => p.line
  | .Assign _ _ p => p.line
  | .AugAssign _ _ _ p => p.line
  | .For _ _ _ _ p => p.line
  | .While _ _ _ p => p.line
  | .If _ _ _ p => p.line
  | .Expr _ p => p.line
  | _ => 0
/-- the value of a slot -/
def trN (c : TC) (n : Nat) (sc : Scope) (W : List Str) (o : Bool) (e : Expr) : Option Ex := match o, e with
  | false, e => trE c n sc W false e
  | true, .List es _ => (trA c n sc W es).map .lst
  | true, .Call (.Name x _) [a] [] _ => if x = ("list" : Str) && (c.free.contains x && glB sc x) then (trAb c n sc W [a]).map (.bif .list) else none
  | true, .ListComp elt [⟨tg, it, ifs, k⟩] scope _ => if k = 0 then trL c n sc W elt tg it ifs scope else none
  | true, _ => none
mutual
def trS (c : TC) (d : SC) (sc : Scope) (W : List Str) : Nat → Stmt → Option Stt
  | 0, _ => none
  | n + 1, s => match s with
    | .Pass _ => some .pas
    | .Break _ => some .brk
    | .Continue _ => some .cnt
    | .Return none _ => some .retN
    | .Return (some (.List es p)) _ => if d.new then (trA c n sc W es).map .retNew else (trE c n sc W false (.List es p)).map .ret
    | .Return (some e) _ => (trE c n sc W false e).map .ret
    | .Expr (.Constant (.str _) _ _) _ => some .pas
    | .Expr (.Call (.Attribute (.Name x _) m ap) [.Call (.Attribute (.Name y _) m2 ap2) [a] [] p4] [] p2) _ =>
      if (decide (m = ("append" : Str)) && decide (m2 = ("pop" : Str))) && ((okn x && okn y) && ((visB sc x && visB sc y) && ((ap.endLine == p2.line) && (ap2.endLine == p4.line)))) then do
        let i ← c.N.idxOf? x
        let j ← c.N.idxOf? y
        let a' ← trE c n sc W false a
        pure (.appop i j a')
      else none
    | .Expr (.Call (.Attribute (.Name x _) m ap) [a] [] p2) _ => if decide (m = ("append" : Str)) && (okn x && (visB sc x && (ap.endLine == p2.line))) then do
        let i ← c.N.idxOf? x
        let a' ← trE c n sc W false a
        pure (.app i a')
      else none
    | .Expr e _ => if notC e then (trE c n sc W false e).map .exp else none
    | .If t a b _ => do
      let t' ← trT c n sc W t
      let a' ← trSs c d sc W n a
      let b' ← trSs c d sc W n b
      pure (.iff t' a' b')
    | .For tg it body [] _ => do
      let t ← tgOf c.N W tg
      let i ← trI c n sc W tg it
      let b ← trSs c d sc W n body
      pure (.for_ t i b)
    | .While t body [] _ => do
      let t' ← trT c n sc W t
      let b ← trSs c d sc W n body
      pure (.whl t' b)
    | .Assign [.Name x p] (.ListComp elt [⟨tg, it, ifs, k⟩] scope p2) _ =>
      if (decide (k = 0) && decide (sc.kind = .function)) && (decide (sc.names.lookup x = some .local) && ((p.line == p2.line) && !(scope.names.any fun (n, k) => n == x && (k == .local || k == .cell)))) then do
        let i ← c.N.idxOf? x
        let e ← trL c n sc W elt tg it ifs scope
        pure (if d.own.contains i then .setO i e else .set i e)
      else none
    | .Assign [.Name x p] e _ => if notC e && W.contains x then do
        let i ← c.N.idxOf? x
        let e' ← trN c n sc W (d.own.contains i) e
        pure (if d.own.contains i then .setO i e' else .set i e')
      else none
    | .Assign [.Tuple ts k p] (.Tuple vs k2 p2) _ => if vs.all (foldedForSure 8) then do
        let t ← tgOf c.N W (.Tuple ts k p)
        let e ← trE c n sc W false (.Tuple vs k2 p2)
        pure (.unp t e)
      else if ts.any (nonLoc sc) then do
        let t ← tgOf c.N W (.Tuple ts k p)
        let e ← trE c n sc W false (.Tuple vs k2 p2)
        pure (.unp t e)
      else (match ts, vs with
        | [.Name x px, .Name y py], [a, b] => if (decide (sc.kind = .function) && (decide (sc.names.lookup x = some .local) && decide (sc.names.lookup y = some .local))) && ((!(x == y) && (py.line == px.line)) && ((gd a && gd b) && !([a, b].all (constantsAlone 8)))) then do
            let i ← c.N.idxOf? x
            let j ← c.N.idxOf? y
            let a' ← trN c n sc W (d.own.contains i) a
            let b' ← trN c n sc W (d.own.contains j) b
            if decide (i = j) then none else pure (.par i j a' b' (d.own.contains i) (d.own.contains j))
          else none
        | _, _ => none)
    | .Assign [.Tuple ts k p] e _ => if notC e && !isTup e then do
        let t ← tgOf c.N W (.Tuple ts k p)
        let e' ← trE c n sc W false e
        pure (.unp t e')
      else none
    | .Assign [.Subscript (.Name x _) b _] a _ => if notC a && (okn x && visB sc x) then do
        let i ← c.N.idxOf? x
        let a' ← trE c n sc W false a
        let b' ← trE c n sc W false b
        pure (.sub i b' a')
      else none
    | .Assign [.Attribute (.Name x _) f _] a _ => if notC a && (okn x && visB sc x) then do
        let i ← c.N.idxOf? x
        let a' ← trE c n sc W false a
        pure (.fld i f a')
      else none
    | _ => none
def trSs (c : TC) (d : SC) (sc : Scope) (W : List Str) : Nat → List Stmt → Option Stts
  | 0, _ => none
  | n + 1, ss => match ss with
    | [] => some .nil
    | s :: r => do
      let s' := (trS c d sc W n s).getD .stk
      let r' ← trSs c d sc W n r
      match d.frz.lookup (stLine s) with
        | some is => pure (.cons (.frz is) (.cons s' r'))
        | none => pure (.cons s' r')
end
end PF

set_option linter.all false
set_option maxRecDepth 100000
set_option maxHeartbeats 4000000
namespace PF
open PySem PySem.Spec PyProof.Rows L2

section
variable {B : Env1} {c : TC} {d : SC} {pg : Pg} {C : Calls} {r n : Nat} {X : Cx} {m : Nat} {sc : Scope} {W : List Str}
theorem PS.of {s : Stmt} {f g : FS} (h : PS X s (tS B X f)) (hf : ∀ ρ S, g ρ S = f ρ S) : PS X s (tS B X g) := by
  rw [show g = f from funext fun ρ => funext fun S => hf ρ S]; exact h
theorem PSs.of {s : List Stmt} {f g : FS} (h : PSs X s (tS B X f)) (hf : ∀ ρ S, g ρ S = f ρ S) : PSs X s (tS B X g) := by
  rw [show g = f from funext fun ρ => funext fun S => hf ρ S]; exact h
theorem SN.of {e : Expr} {f g : Env → M PV} {o : Bool} (h : SN B X o e f) (hf : ∀ ρ, g ρ = f ρ) : SN B X o e g := by
  rw [show g = f from funext hf]; exact h
theorem nl {o : Bool} {v : PV} {i : Nat} {ρ : Env} {S : Sto} : True := trivial
theorem snd_N (T : TOk B c pg C r) (ok : XOk B m c.N sc W X) (hr : r + 1 ≤ m) {o : Bool} {e : Expr} {x : Ex} (h : trN c n sc W o e = some x) : SN B X o e (ev pg C x) := by
  have I := snd_all T n
  unfold trN at h
  split at h
  · exact (I.E ok hr h).sn
  · obtain ⟨xs, h1, h2⟩ := Option.map_eq_some_iff.mp h
    subst h2
    exact SN.of (snd_lst (I.A ok hr h1).sa).sn fun _ => rfl
  · split at h
    · rename_i hx
      simp only [Bool.and_eq_true, decide_eq_true_eq] at hx
      obtain ⟨xs, h1, h2⟩ := Option.map_eq_some_iff.mp h
      subst h2
      exact SN.of (snd_listF ok hx.1 (gl_ok hx.2.2) (T.free _ hx.2.1) (I.Ab ok hr h1)).sn fun _ => rfl
    · cases h
  · split at h
    · rename_i hk
      subst hk
      exact (sf_lc ok (I.L ok hr h)).sn
    · cases h
  · cases h
/-- what is known of the names that are stored: they are the block's -/
theorem snd_S (T : TOk B c pg C r) (ih : ∀ {ss : List Stmt} {x : Stts}, trSs c d sc W n ss = some x → PSs X ss (tS B X (exs pg C x))) (ok : XOk B m c.N sc W X) (hr : r + 1 ≤ m) {s : Stmt} {x : Stt} (h : trS c d sc W (n + 1) s = some x) : PS X s (tS B X (ex pg C x)) := by
  have I := snd_all T n
  unfold trS at h
  split at h
  · cases h; exact PS.of ss_pas fun _ _ => by simp only [ex]
  · cases h; exact PS.of ss_brk fun _ _ => by simp only [ex]
  · cases h; exact PS.of ss_cnt fun _ _ => by simp only [ex]
  · cases h; exact PS.of ss_retN fun _ _ => by simp only [ex]
  · split at h
    · obtain ⟨xs, h1, h2⟩ := Option.map_eq_some_iff.mp h
      subst h2
      exact PS.of (ss_retNew (F := evs pg C xs) (snd_lst (I.A ok hr h1).sa)) fun _ _ => by simp only [ex]
    · obtain ⟨xs, h1, h2⟩ := Option.map_eq_some_iff.mp h
      subst h2
      exact PS.of (ss_ret (I.E ok hr h1)) fun _ _ => by simp only [ex]
  · obtain ⟨xs, h1, h2⟩ := Option.map_eq_some_iff.mp h
    subst h2
    exact PS.of (ss_ret (I.E ok hr h1)) fun _ _ => by simp only [ex]
  · cases h; exact PS.of ss_doc fun _ _ => by simp only [ex]
  · split at h
    · rename_i hx
      simp only [Bool.and_eq_true, decide_eq_true_eq] at hx
      obtain ⟨⟨e1, e2⟩, ⟨o1, o2⟩, ⟨v1, v2⟩, l1, l2⟩ := hx
      subst e1 e2
      obtain ⟨i, h1, h⟩ := ob h
      obtain ⟨j, h2, h⟩ := ob h
      obtain ⟨a', h3, h⟩ := ob h
      cases h
      exact PS.of (ss_appop ok (ix_ok h1) (vis_ok v1) (okn_ok o1).1 (okn_ok o1).2 l1 (ix_ok h2) (vis_ok v2) (okn_ok o2).1 (okn_ok o2).2 l2 (I.E ok hr h3)) fun _ _ => by simp only [ex] <;> rfl
    · cases h
  · split at h
    · rename_i hx
      simp only [Bool.and_eq_true, decide_eq_true_eq] at hx
      obtain ⟨e1, o1, v1, l1⟩ := hx
      subst e1
      obtain ⟨i, h1, h⟩ := ob h
      obtain ⟨a', h3, h⟩ := ob h
      cases h
      exact PS.of (ss_app ok (ix_ok h1) (vis_ok v1) (okn_ok o1).1 (okn_ok o1).2 l1 (I.E ok hr h3)) fun _ _ => by simp only [ex]
    · cases h
  · split at h
    · rename_i hx
      obtain ⟨xs, h1, h2⟩ := Option.map_eq_some_iff.mp h
      subst h2
      exact PS.of (ss_exp (I.E ok hr h1) hx) fun _ _ => by simp only [ex]
    · cases h
  · obtain ⟨t', h1, h⟩ := ob h
    obtain ⟨a', h2, h⟩ := ob h
    obtain ⟨b', h3, h⟩ := ob h
    cases h
    exact PS.of (ss_if (I.T ok hr h1) (ih h2) (ih h3)) fun _ _ => by simp only [ex]
  · obtain ⟨t, h1, h⟩ := ob h
    obtain ⟨i, h2, h⟩ := ob h
    obtain ⟨b, h3, h⟩ := ob h
    cases h
    exact PS.of (ss_for ok (I.I ok hr h2) (tg_ok ok h1) (ih h3)) fun _ _ => by simp only [ex]
  · obtain ⟨t', h1, h⟩ := ob h
    obtain ⟨b, h3, h⟩ := ob h
    cases h
    exact PS.of (ss_whl (k := pg.whl) ok (I.T ok hr h1) (ih h3)) fun _ _ => by simp only [ex]
  -- assignments
  · split at h
    · rename_i hx
      simp only [Bool.and_eq_true, decide_eq_true_eq, Bool.not_eq_true'] at hx
      obtain ⟨⟨e1, e2⟩, e3, e4, e5⟩ := hx
      subst e1
      obtain ⟨i, h1, h⟩ := ob h
      obtain ⟨e, h2, h⟩ := ob h
      cases h
      have s := ss_setLc (o := d.own.contains i) ok (by assumption) (ix_ok h1) e3 e4 e5 (I.L ok hr h2) (pos := by assumption)
      cases ho : d.own.contains i with
      | true => rw [ho] at s; exact PS.of s fun _ _ => by simp only [ex, if_true]; rfl
      | false => rw [ho] at s; exact PS.of s fun _ _ => by simp only [ex, Bool.false_eq_true, if_false]; rfl
    · cases h
  · split at h
    · rename_i hx
      rw [Bool.and_eq_true] at hx
      obtain ⟨i, h1, h⟩ := ob h
      obtain ⟨e', h2, h⟩ := ob h
      cases h
      have s := fun p pos => ss_set (o := d.own.contains i) ok (ix_ok h1) (by simpa using hx.2) hx.1 (snd_N T ok hr h2) (pos := pos) (p := p)
      cases ho : d.own.contains i with
      | true => rw [ho] at s; exact PS.of (s _ _) fun _ _ => by simp only [ex, if_true]; rfl
      | false => rw [ho] at s; exact PS.of (s _ _) fun _ _ => by simp only [ex, Bool.false_eq_true, if_false]; rfl
    · cases h
  · split at h
    · rename_i hf
      obtain ⟨t, h1, h⟩ := ob h
      obtain ⟨e, h2, h⟩ := ob h
      cases h
      exact PS.of (ss_unp ok (tg_ok ok h1) (I.E ok hr h2) rfl (sw_folded hf) rfl) fun _ _ => by simp only [ex] <;> rfl
    · rename_i hf
      split at h
      · rename_i hn
        obtain ⟨t, h1, h⟩ := ob h
        obtain ⟨e, h2, h⟩ := ob h
        cases h
        exact PS.of (ss_unp ok (tg_ok ok h1) (I.E ok hr h2) rfl (sw_non (by rw [ok.nsc]; exact hn)) rfl) fun _ _ => by simp only [ex] <;> rfl
      split at h
      · split at h
        · rename_i hx
          simp only [Bool.and_eq_true, decide_eq_true_eq, Bool.not_eq_true'] at hx
          obtain ⟨⟨k1, k2, k3⟩, ⟨k4, k5⟩, ⟨k6, k7⟩, k8⟩ := hx
          obtain ⟨i, h1, h⟩ := ob h
          obtain ⟨j, h2, h⟩ := ob h
          obtain ⟨a', h3, h⟩ := ob h
          obtain ⟨b', h4, h⟩ := ob h
          split at h
          · cases h
          · rename_i hij
            cases h
            exact PS.of (ss_par ok (ix_ok h1) (ix_ok h2) (by simpa using hij) k2 k3 (sw_par (by rw [ok.nsc]; exact k1) (by rw [ok.nsc]; exact k2) (by rw [ok.nsc]; exact k3) k4 k5 k6 k7 (by simpa using hf) k8) (snd_N T ok hr h3) (snd_N T ok hr h4)) fun _ _ => by simp only [ex] <;> rfl
        · cases h
      · cases h
  · split at h
    · rename_i hx
      rw [Bool.and_eq_true, Bool.not_eq_true'] at hx
      obtain ⟨t, h1, h⟩ := ob h
      obtain ⟨e', h2, h⟩ := ob h
      cases h
      exact PS.of (ss_unp ok (tg_ok ok h1) (I.E ok hr h2) hx.1 (sw_noTup hx.2) rfl) fun _ _ => by simp only [ex] <;> rfl
    · cases h
  · split at h
    · rename_i hx
      simp only [Bool.and_eq_true] at hx
      obtain ⟨i, h1, h⟩ := ob h
      obtain ⟨a', h2, h⟩ := ob h
      obtain ⟨b', h3, h⟩ := ob h
      cases h
      exact PS.of (ss_sub ok (ix_ok h1) (vis_ok hx.2.2) (okn_ok hx.2.1).1 (okn_ok hx.2.1).2 hx.1 (I.E ok hr h2) (I.E ok hr h3)) fun _ _ => by simp only [ex] <;> rfl
    · cases h
  · split at h
    · rename_i hx
      simp only [Bool.and_eq_true] at hx
      obtain ⟨i, h1, h⟩ := ob h
      obtain ⟨a', h2, h⟩ := ob h
      cases h
      exact PS.of (ss_fld ok T.cf (ix_ok h1) (vis_ok hx.2.2) (okn_ok hx.2.1).1 (okn_ok hx.2.1).2 hx.1 (I.E ok hr h2)) fun _ _ => by simp only [ex] <;> rfl
    · cases h
  · cases h
/-- THE STATEMENTS -/
theorem snd_Ss (T : TOk B c pg C r) (ok : XOk B m c.N sc W X) (hr : r + 1 ≤ m) : ∀ (n : Nat) {ss : List Stmt} {x : Stts}, trSs c d sc W n ss = some x → PSs X ss (tS B X (exs pg C x))
  | 0, ss, x, h => by cases h
  | n + 1, ss, x, h => by
    unfold trSs at h
    split at h
    · cases h; exact PSs.of ss_nil fun _ _ => by simp only [exs]
    · rename_i s rest
      obtain ⟨r', h1, h⟩ := ob h
      have hs : PS X s (tS B X (ex pg C ((trS c d sc W n s).getD .stk))) := by
        cases e : trS c d sc W n s with
        | none => exact PS.of ss_stk fun _ _ => by simp only [Option.getD_none, ex]
        | some y =>
          cases n with
          | zero => cases e
          | succ k => exact snd_S T (fun {ss x} h => snd_Ss T ok hr k h) ok hr e
      have hc := ss_cons hs (snd_Ss T ok hr n h1)
      split at h
      · cases h
        exact PSs.of (ss_frz hc) fun _ _ => by simp only [exs, ex]; rfl
      · cases h
        exact PSs.of hc fun _ _ => by simp only [exs]; rfl
end
end PF

set_option linter.all false
set_option maxRecDepth 100000
namespace PF
open PySem PySem.Spec PyProof.Rows L2

/-- the names that a body may store -/
def locN (N : List Str) (sc : Scope) : List Str := N.filter fun x => decide (sc.names.lookup x = some .local) || decide (sc.names.lookup x = some .cell)
theorem locN_ok {N : List Str} {sc : Scope} : ∀ x ∈ locN N sc, L2.Loc sc x := by
  intro x hx
  have h := (List.mem_filter.mp hx).2
  rw [Bool.or_eq_true, decide_eq_true_eq, decide_eq_true_eq] at h
  exact h
def fnScB (N ps : List Str) (sc : Scope) : Bool := decide (sc.kind = .function) && (!sc.isCoroutine && (!sc.isGenerator && (decide N.Nodup && (decide (N.take ps.length = ps) && (ps.all (fun x => decide (sc.names.lookup x = some .local) || decide (sc.names.lookup x = some .cell)) && sc.names.all fun y => decide (y.2 ≠ .free))))))
theorem fnScB_ok {N ps : List Str} {sc : Scope} (h : fnScB N ps sc = true) : FnScope N ps sc := by
  unfold fnScB at h
  simp only [Bool.and_eq_true, decide_eq_true_eq, Bool.not_eq_true', List.all_eq_true, Bool.or_eq_true] at h
  obtain ⟨h1, h2, h3, h4, h5, h6, h7⟩ := h
  exact ⟨h1, h2, h3, h4, h5, fun x hx => h6 x hx, fun y hy => h7 y hy⟩

section
variable {B : Env1} {c : TC} {d : SC} {pg : Pg} {C : Calls} {r n : Nat} {name qual : Str} {params : Arguments} {body : List Stmt} {scope : Scope} {dvs : List V} {kws : List (Str × V)} {a : Addr} {fd : FuncData} {ps : List Str} {x : Stts}
theorem er_start {Λ : List Addr} {G H : Hp} {H0 : Ent} {xs : List PV} {vs : List V} (k : Nat) (rv : RepL B.L Λ G xs vs) : ER B.L Λ G H H0 (vs.map some ++ List.replicate k none) (xs.map Sl.val ++ List.replicate k .emp) := by
  have l := rv.len
  refine ⟨by simp [l], fun i s o h1 h2 => ?_, fun i j s t a b ne h1 h2 h3 h4 => ?_⟩
  · by_cases hi : i < xs.length
    · rw [List.getElem?_append_left (by simpa using hi), List.getElem?_map] at h1
      rw [List.getElem?_append_left (by simp; omega), List.getElem?_map] at h2
      obtain ⟨y, e1, e2⟩ := Option.map_eq_some_iff.mp h1
      obtain ⟨v, e3, e4⟩ := rv.get e1
      subst e2
      rw [e3] at h2
      cases h2
      exact ⟨v, rfl, e4⟩
    · rw [List.getElem?_append_right (by simp; omega), List.getElem?_replicate] at h1
      split at h1
      · cases h1; trivial
      · cases h1
  · have no : ∀ {i : Nat} {s : Sl}, (xs.map Sl.val ++ List.replicate k .emp)[i]? = some s → isOwn s = false := fun {i s} h => by
      have := List.mem_of_getElem? h
      rcases List.mem_append.mp this with z | z
      · obtain ⟨y, _, rfl⟩ := List.mem_map.mp z; rfl
      · rw [(List.mem_replicate.mp z).2]; rfl
    rw [no h1] at h3; cases h3
theorem xok_cx {w : World} {N : List Str} {qual : Str} {cdv : Value} {A : Around} {outer : List PySem.Env} {s : Shared} {H : Hp} {E : XK} (S : FnScope N ps scope) (hg : A.guards = some []) (hr : Room n (A.deeper (envOfC qual scope s.heap.objs.size a cdv))) (hw : w = B.L.w) :
    XOk B n N scope (locN N scope) (cxOf (CX B.L.P w) B.L.P w B.L.K B.L.mg B.L.base N qual scope a cdv A outer s H E) := by
  refine ⟨rfl, hw, rfl, rfl, rfl, rfl, S.nd, rfl, rfl, hr, hg, passes_of (K := fun e s'' => CX B.L.P w outer H s E e s'') (E₁ := fun e' s'' => CX B.L.P w outer H s E e' s'') rfl, fun x hx => ⟨locN_ok x hx, .inl rfl⟩⟩
/-- a def of the text does what its translation does -/
theorem fn_ok (F : FunD B.L.K name qual params body scope dvs kws a fd) (S : FnScope c.N ps scope) (T : TOk B c pg C r) (h : trSs c d scope (locN c.N scope) n body = some x) :
    FnG B.L.P B.L.w B.L.K B.L.mg B.L.base (r + 2) a fd ps (PrF B ps.length (runF pg C ⟨name, ps.length, c.N.length, x⟩)) := by
  refine fnG_of F S (fun vs H Q E q => q.1) fun cdv A outer s H vs Q E hg hr ⟨hl, Λ, G, S0, xs, sr, rv, af⟩ => ?_
  have ok := xok_cx (B := B) (a := a) (cdv := cdv) (outer := outer) (H := H) (E := E) S hg hr rfl
  refine ⟨_, snd_Ss (d := d) T ok (Nat.le_refl _) n h, Λ, G, ⟨H, none⟩, Λ, G, xs.map Sl.val ++ List.replicate (c.N.length - xs.length) .emp, S0, ⟨.refl, sr, ?_⟩, ?_⟩
  · have l := rv.len
    have e := er_start (B := B) (H := H) (H0 := ⟨H, none⟩) (c.N.length - xs.length) rv
    rw [l] at e ⊢
    exact e
  · have hl2 : xs.length = ps.length := by rw [rv.len, hl]
    unfold runF at af
    dsimp only at af
    rw [if_pos hl2] at af
    rw [hl2]
    cases q : exs pg C x (xs.map Sl.val ++ List.replicate (c.N.length - ps.length) .emp) S0 with
    | nxt ρ' S' =>
      rw [q] at af
      exact fun σ' Λ' G' H' _ m => af Λ' G' H' m.st m.sr .non (by simp only [Rep])
    | ret v S' =>
      rw [q] at af
      exact fun Λ' G' H' _ t s u ru => af Λ' G' H' t s u ru
    | exc k fs ρ' S' =>
      rw [q] at af
      exact fun σ' cls dd Λ' G' H' _ m ex => ⟨fun cls d _ H => E cls d H, takes_of rfl rfl rfl rfl, af cls dd Λ' G' H' m.st m.sr ex⟩
    | brk ρ' S' => rw [q] at af; exact (show False from af).elim
    | cnt ρ' S' => rw [q] at af; exact (show False from af).elim
    | stk => rw [q] at af; exact af
/-- an __init__ of the text -/
theorem init_ok {k : Nat} (F : FunD B.L.K name qual params body scope dvs kws a fd) (S : FnScope c.N ps scope) (T : TOk B c pg C r) (h : trSs c d scope (locN c.N scope) n body = some x) :
    FnG B.L.P B.L.w B.L.K B.L.mg B.L.base (r + 2) a fd ps (PrI B ps.length k (runI pg C k ⟨name, ps.length, c.N.length, x⟩)) := by
  refine fnG_of F S (fun vs H Q E q => q.1) fun cdv A outer s H vs Q E hg hr ⟨hl, y, dx, ws, Λ, G, H1, S0, xs, ev, hy, hdx, ne, eH, sr, rv, af⟩ => ?_
  have ok := xok_cx (B := B) (a := a) (cdv := cdv) (outer := outer) (H := H) (E := E) S hg hr rfl
  subst ev eH
  have hy2 : (upd H1 dx (.own y)) y = none := by rw [upd_ne (Ne.symm ne)]; exact hy
  have sr1 := (sr.laidO (o := .own y) hdx).laidO (o := .ins (B.L.cl k) dx []) hy2
  have t1 : Stp Λ G H1 Λ G (upd (upd H1 dx (.own y)) y (.ins (B.L.cl k) dx [])) := (Stp.laidO hdx).trans (Stp.laidO hy2)
  have gy : G y = none := sr.sub.none hy
  have ly : y ∉ Λ := fun z => sr.ne hy z rfl
  refine ⟨_, snd_Ss (d := d) T ok (Nat.le_refl _) n h, Λ, G, ⟨H1, some y⟩, Λ, G, Sl.obj k [] [] :: xs.map Sl.val ++ List.replicate (c.N.length - (xs.length + 1)) .emp, S0, ⟨t1, sr1, ?_⟩, ?_⟩
  · have l := rv.len
    have e := er_start (B := B) (H := upd (upd H1 dx (.own y)) y (.ins (B.L.cl k) dx [])) (H0 := ⟨H1, some y⟩) (c.N.length - (xs.length + 1)) rv
    have e2 : L2.start c.N (V.ref y :: ws) = some (.ref y) :: (ws.map some ++ List.replicate (c.N.length - (xs.length + 1)) none) := by
      unfold L2.start
      rw [List.map_cons, List.length_cons, l]; rfl
    rw [e2]
    refine ⟨by simpa using congrArg Nat.succ e.len, fun i s o h1 h2 => ?_, fun i j s t p q ne h1 h2 h3 h4 h5 h6 => ?_⟩
    · cases i with
      | zero =>
        cases h1; cases h2
        exact ⟨y, dx, [], rfl, upd_same, rfl, repL_nil, gy, ly, hy, rfl⟩
      | succ i => exact e.at_ i s o (by simpa using h1) (by simpa using h2)
    · have no : ∀ {i : Nat} {s : Sl}, (xs.map Sl.val ++ List.replicate (c.N.length - (xs.length + 1)) .emp)[i]? = some s → isOwn s = false := fun {i s} h => by
        rcases List.mem_append.mp (List.mem_of_getElem? h) with z | z
        · obtain ⟨y, _, rfl⟩ := List.mem_map.mp z; rfl
        · rw [(List.mem_replicate.mp z).2]; rfl
      cases i with
      | zero =>
        cases j with
        | zero => exact absurd rfl ne
        | succ j => rw [no (show _ = some t by simpa using h2)] at h4; cases h4
      | succ i => rw [no (show _ = some s by simpa using h1)] at h3; cases h3
  · have hl2 : xs.length + 1 = ps.length := by rw [rv.len, ← hl]; rfl
    unfold runI at af
    dsimp only at af
    rw [if_pos hl2] at af
    rw [hl2]
    cases q : exs pg C x (Sl.obj k [] [] :: xs.map Sl.val ++ List.replicate (c.N.length - ps.length) .emp) S0 with
    | nxt ρ' S' =>
      rw [q] at af
      dsimp only at af
      intro σ' Λ' G' H' _ m
      cases hd : ρ'.head? with
      | none => rw [hd] at af; exact (show False from af).elim
      | some sl =>
        rw [hd] at af
        have h0 : ρ'[0]? = some sl := by rw [← List.head?_eq_getElem?]; exact hd
        cases sl with
        | obj c2 ns fs =>
          obtain ⟨o, h1, p, dx2, vs2, rfl, h2, hl3, r3, g1, g2, g3, g4⟩ := m.er.get h0
          cases g4
          have rr : Rep B.L Λ' (upd G' y (.ins (B.L.cl c2) dx2 (ns.zip vs2))) (.ins c2 ns fs) (.ref y) := by
            simp only [Rep]
            exact ⟨y, dx2, vs2, rfl, upd_same, hl3, r3.mono (Sub.upd g1) ⟨[], by simp⟩⟩
          have m2 := frz_own m h0 rfl h1 h2 g1 g2 g3 rr
          exact af Λ' _ H' m2.st m2.sr rr
        | _ => exact (show False from af).elim
    | ret v S' => rw [q] at af; exact (show False from af).elim
    | exc k2 fs ρ' S' =>
      rw [q] at af
      exact fun σ' cls dd Λ' G' H' _ m ex => ⟨fun cls d _ H => E cls d H, takes_of rfl rfl rfl rfl, af cls dd Λ' G' H' m.st m.sr ex⟩
    | brk ρ' S' => rw [q] at af; exact (show False from af).elim
    | cnt ρ' S' => rw [q] at af; exact (show False from af).elim
    | stk => rw [q] at af; exact af
end
end PF

set_option linter.all false
set_option maxRecDepth 100000
namespace PF
open PySem PySem.Spec PyProof.Rows L2

/-- the rows within a class -/
def rowsIn (s : Stmt) : List Stmt := match s with
  | .ClassDef _ _ _ rows _ _ _ _ _ _ _ => rows
  | _ => []
/-- a def of the text, with what its translation wants to know -/
structure DefT where
  d : He.DefD
  N : List Str
  ps : List Str
  sc : SC
/-- what is told of the program -/
structure PgT where
  defs : List DefT
  free : List Str
  fnL : List (Str × Nat)
  clL : List (Str × Nat)
  glL : List (Str × PV)
  cls : List ClsD
  shF : List ((Nat × Nat × List Str) × List Sel)
  shM : List ((Nat × Nat × List Str) × List Sel)
  shT : List ((Str × Nat × List Str) × List Sel)
  whl : Nat := 1000000
def PgT.tc (t : PgT) (N : List Str) : TC := ⟨N, t.free, t.fnL, t.clL, t.glL, fun f n ks => t.shF.lookup (f, n, ks), fun k n ks => t.shM.lookup (k, n, ks), fun m n ks => t.shT.lookup (m, n, ks)⟩
/-- the translation of a def -/
def PgT.body (t : PgT) (d : DefT) : Option Stts := trSs (t.tc d.N) d.sc d.d.scope (locN d.N d.d.scope) 100 d.d.body
def PgT.pg (t : PgT) : Pg := ⟨t.defs.map fun d => ⟨d.d.name, d.ps.length, d.N.length, (t.body d).getD .nil⟩, t.cls, t.whl⟩
/-- that every def has a translation -/
def PgT.good (t : PgT) : Bool := t.defs.all fun d => (t.body d).isSome && fnScB d.N d.ps d.d.scope

/-- what holds of the program behind its top -/
structure POk (B : Env1) (t : PgT) : Prop where
  cf : CF B t.pg
  free : ∀ x, t.free.contains x = true → B.L.mg x = none
  fn : ∀ x f, t.fnL.lookup x = some f → f < t.defs.length ∧ B.L.mg x = some (.ref (B.fa f))
  cl : ∀ x k, t.clL.lookup x = some k → B.L.mg x = some (.ref (B.L.cl k))
  mke : ∀ x k, t.clL.lookup x = some k → ∃ d, t.cls[k]? = some d ∧ d.init < t.defs.length ∧ Mk B.L.K (B.L.cl k) (B.fa d.init) ∧ ∀ n ks sel, t.shM.lookup (k, n, ks) = some sel → Bd B d.init (n + 1) ks (.p 0 :: sel.map Sel.up)
  bd : ∀ f n ks sel, t.shF.lookup (f, n, ks) = some sel → Bd B f n ks sel
  me : ∀ m k f, (t.cls.getD k default).meths.lookup m = some f → f < t.defs.length
  mb : ∀ m n ks sel, t.shT.lookup (m, n, ks) = some sel → ∀ k f, (t.cls.getD k default).meths.lookup m = some f → Bd B f (n + 1) ks (.p 0 :: sel.map Sel.up)
  eqb : ∀ k f, (t.cls.getD k default).meths.lookup ("__eq__" : Str) = some f → Bd B f 2 [] [.p 0, .p 1]
  glb : ∀ x v, t.glL.lookup x = some v → ∃ u y, B.L.mg x = some u ∧ glbP v y ∧ RelV y u
  defs : ∀ i d, t.defs[i]? = some d → B.ps i = d.ps ∧ ∃ dvs kws, FunD B.L.K d.d.name d.d.qual d.d.params d.d.body d.d.scope dvs kws (B.fa i) (B.fd i)

section
variable {B : Env1} {t : PgT}
/-- the promise of all defs and all __init__ at a depth -/
def AllOk (B : Env1) (t : PgT) (n : Nat) : Prop := (∀ i, i < t.defs.length → FnG B.L.P B.L.w B.L.K B.L.mg B.L.base (2 * n) (B.fa i) (B.fd i) (B.ps i) (PrF B (B.ps i).length ((calls t.pg n).fn i))) ∧
  ∀ k d, t.cls[k]? = some d → d.init < t.defs.length → FnG B.L.P B.L.w B.L.K B.L.mg B.L.base (2 * n) (B.fa d.init) (B.fd d.init) (B.ps d.init) (PrI B (B.ps d.init).length k ((calls t.pg n).new k))
theorem tok_of (p : POk B t) {n : Nat} (h : AllOk B t n) (N : List Str) : TOk B (t.tc N) t.pg (calls t.pg n) (2 * n) := by
  refine ⟨p.cf, p.free, fun x f hf => ?_, p.cl, fun x k hk => ?_, p.bd, fun m k f hm => h.1 f (p.me m k f hm), p.mb, fun k f hf => ⟨h.1 f (p.me _ k f hf), p.eqb k f hf⟩, p.glb⟩
  · obtain ⟨h1, h2⟩ := p.fn x f hf
    obtain ⟨dvs, kws, F⟩ := (p.defs f _ (List.getElem?_eq_getElem h1)).2
    exact ⟨h2, F.kp, h.1 f h1⟩
  · obtain ⟨d, h1, h2, h3, h4⟩ := p.mke x k hk
    exact ⟨d.init, h3, h.2 k d h1 h2, h4⟩
theorem all_ok (p : POk B t) (hg : t.good = true) : ∀ n, AllOk B t n
  | 0 => ⟨fun i _ => ⟨fun vs H Q E q => q.1, fun A outer s H args us vs Q E _ _ _ _ _ q => by obtain ⟨_, Λ, G, S, xs, _, _, af⟩ := q; exact (show False from af).elim⟩,
    fun k d _ _ => ⟨fun vs H Q E q => q.1, fun A outer s H args us vs Q E _ _ _ _ _ q => by obtain ⟨_, y, dx, ws, Λ, G, H0, S, xs, _, _, _, _, _, _, _, af⟩ := q; exact (show False from af).elim⟩⟩
  | n + 1 => by
    have ih := all_ok p hg n
    have body : ∀ i (hi : i < t.defs.length), ∃ x, t.body t.defs[i] = some x ∧ FnScope t.defs[i].N t.defs[i].ps t.defs[i].d.scope ∧ t.pg.fns[i]? = some ⟨t.defs[i].d.name, t.defs[i].ps.length, t.defs[i].N.length, x⟩ := fun i hi => by
      have h := List.all_eq_true.mp hg t.defs[i] (List.getElem_mem hi)
      rw [Bool.and_eq_true] at h
      obtain ⟨x, hx⟩ := Option.isSome_iff_exists.mp h.1
      refine ⟨x, hx, fnScB_ok h.2, ?_⟩
      show (t.defs.map _)[i]? = _
      rw [List.getElem?_map, List.getElem?_eq_getElem hi]
      simp only [Option.map_some, hx, Option.getD_some]
    refine ⟨fun i hi => ?_, fun k d hk hi => ?_⟩
    · obtain ⟨x, h1, h2, h3⟩ := body i hi
      obtain ⟨e, dvs, kws, F⟩ := p.defs i _ (List.getElem?_eq_getElem hi)
      have q := fn_ok (B := B) (c := t.tc t.defs[i].N) (d := t.defs[i].sc) F h2 (tok_of p ih t.defs[i].N) h1
      have eC : (calls t.pg (n + 1)).fn i = runF t.pg (calls t.pg n) ⟨t.defs[i].d.name, t.defs[i].ps.length, t.defs[i].N.length, x⟩ := by
        funext vs
        simp only [calls]
        rw [h3]
      rw [eC, e]
      exact q
    · obtain ⟨x, h1, h2, h3⟩ := body d.init hi
      obtain ⟨e, dvs, kws, F⟩ := p.defs d.init _ (List.getElem?_eq_getElem hi)
      have q := init_ok (B := B) (k := k) (c := t.tc t.defs[d.init].N) (d := t.defs[d.init].sc) F h2 (tok_of p ih t.defs[d.init].N) h1
      have hk2 : t.pg.cls[k]? = some d := hk
      have eC : (calls t.pg (n + 1)).new k = runI t.pg (calls t.pg n) k ⟨t.defs[d.init].d.name, t.defs[d.init].ps.length, t.defs[d.init].N.length, x⟩ := by
        funext vs
        simp only [calls]
        rw [hk2]
        dsimp only
        rw [h3]
      rw [eC, e]
      exact q
end
/-! ### what the head is to tell beside the library's facts -/
def clK (t : PgT) (K : PySem.W.Frag) (k : Nat) : Addr := He.ga K (t.cls.getD k default).name
def obB (K : PySem.W.Frag) (C : Addr) : Bool := decide (PySem.W.findIn K (.ref C) "__class__" = some (some (.builtin "object.__class__"))) &&
  (decide (PySem.W.specialIn K (.builtin "object.__class__") "__get__" = some (some (.builtin "getset_descriptor.__get__"))) && (decide (PySem.W.takesIn K (.builtin "object.__class__") = some true) && decide (PySem.W.mroIn K C (.type "object") = some true)))
def isiB (t : PgT) (K : PySem.W.Frag) : Bool := (List.range t.cls.length).all fun k => obB K (clK t K k) &&
  ((List.range t.cls.length).all (fun j => decide (PySem.W.kitOne K (.ref (clK t K k)) (.ref (clK t K j)) = some (k == j || (t.cls.getD k default).above.contains j))) &&
   ((isiTys.all fun a => decide (PySem.W.kitOne K (.type a) (.ref (clK t K k)) = some false) && decide (PySem.W.kitOne K (.ref (clK t K k)) (.type a) = some false)) &&
   (decide (PySem.W.findIn K (.ref (clK t K k)) "__ne__" = some (some (.builtin "object.__ne__"))) && ((List.range t.cls.length).all (fun j => decide (PySem.W.subIn K (.ref (clK t K k)) (.ref (clK t K j)) = some (k == j || (t.cls.getD k default).above.contains j))) &&
   isiTys.all fun a => decide (PySem.W.subIn K (.type a) (.ref (clK t K k)) = some false)))))
/-- the facts by names -/
def PgT.fa (t : PgT) : List He.Fa := t.free.map He.Fa.free ++ t.fnL.map (fun p => He.Fa.glo p.1) ++ t.clL.map (fun p => He.Fa.glo p.1) ++
  t.glL.map (fun p => match p.2 with
    | .int i => He.Fa.int p.1 i
    | .str z => He.Fa.str p.1 z
    | _ => He.Fa.free "") ++
  t.cls.flatMap fun c => [He.Fa.cls c.name, He.Fa.mkr c.name] ++ c.flds.map (He.Fa.noat c.name) ++ c.meths.map fun m => He.Fa.meth c.name m.1
def PgT.fn (t : PgT) : List He.DefD := t.defs.map (·.d)
abbrev PgT.hk (t : PgT) : PySem.W.Hook := He.hookX 6 t.fa t.fn [] [] (isiB t)
end PF

set_option linter.all false
set_option maxRecDepth 100000
namespace PF
open PySem PySem.Spec PyProof.Rows L2

section
variable {P : Program} {w : World} {K : PySem.W.Frag} {mg mb : Str → Option Value} {r : Nat} {fa a : Addr} {fd : FuncData} {x : Str} {sp : Sp} {s1 : Shared} {vs : List Value} {ns : List Int}
/-- what a law's caller wants -/
def Wish (s1 : Shared) (res : Result) (s' : Shared) : Prop := res = .ok (.ret (.bool true)) ∧ OldK s1.heap s'.heap ∧ s'.os = s1.os ∧ AllBare s'.gens
/-- the abstract heap at the law's entry knows at most the script -/
structure Ground (K : PySem.W.Frag) (a : Addr) (s1 : Shared) (H : Hp) : Prop where
  only : Only H
  mine : ∀ b u, H b = some u → b = a
  out : (∃ u, H a = some u) → K.lookup a = none
theorem ground_get {H : Hp} (g : Ground K a s1 H) (ha : s1.heap.get? a = some { cls := .type "list", data := .seq vs.toArray }) {b : Addr} {o : Obj} (e : s1.heap.get? b = some o) (n : b = a → H b = none) : (hidT s1.heap H).get? b = some o := by
  refine hidT_get e ?_
  cases q : H b with
  | none => rfl
  | some u =>
    have z := n (g.mine b u q)
    rw [z] at q; cases q
theorem ground_ns {H : Hp} (g : Ground K a s1 H) (ha : s1.heap.get? a = some { cls := .type "list", data := .seq vs.toArray }) {b : Addr} {m : Str → Option Value} (h : s1.heap.Ns b m) : (hidT s1.heap H).Ns b m := by
  obtain ⟨o, es, ep, e, d, z⟩ := h
  refine ⟨o, es, ep, ground_get g ha e (fun q => ?_), d, z⟩
  subst q
  rw [ha] at e
  cases e
  have d' : Data.seq vs.toArray _ = Data.dict es ep := d
  cases d'
theorem law_from {H : Hp} (g : Ground K a s1 H) (KX : K.In s1.heap) (hG : s1.heap.Ns mainGlobals mg) (hB : s1.heap.Ns builtinsNs mb) (hBb : ∀ y : Str, y ≠ "__name__" → mb y = bootBuiltins y) (hL : s1.heap.NoLimit) (hgen : s1.gens = #[])
    (ha : s1.heap.get? a = some { cls := .type "list", data := .seq vs.toArray }) (hr : Room r callerA) (F : ∀ base : Heap, K.In base → base.Ns mainGlobals mg → FnG P w K mg base r fa fd [x] sp)
    (hbd : ∀ (s : Shared) (u : Value), BindsTo s fd ⟨[u], []⟩ [(x, u)]) (hok : HOk P w H s1.heap) (hsp : sp [.ref a] H (fun v _ => v = .bl true) fun _ _ _ => False) :
    codeAny (model P w) callerA (.call (.ref fa) ⟨[.ref a], []⟩) (Wish s1) s1 := by
  have kb : K.In (hidT s1.heap H) := fun b o e => ground_get g ha (KX b o e) fun q => by
    cases h : H b with
    | none => rfl
    | some u =>
      subst q
      rw [g.out ⟨u, h⟩] at e; cases e
  have md : Mod K mg (hidT s1.heap H) := by
    refine ⟨kb, ground_ns g ha hG, ⟨mb, ground_ns g ha hB, hBb⟩, ?_⟩
    obtain ⟨mc, z1, z2⟩ := hL
    exact ⟨mc, ground_ns g ha z1, z2⟩
  have en : Env0 P w K mg (hidT s1.heap H) callerA [] s1 H := by
    refine ⟨rfl, md, fun b o e => of_hidT e, Nat.le_of_eq (hidT_size _ _), trivial, fun b hb => ?_, hok, .of_eq hgen⟩
    cases (show b ∈ ([] : List Addr) from hb)
  refine codeAny_mono ((F _ kb (ground_ns g ha hG)).go callerA [] s1 H ⟨[.ref a], []⟩ [.ref a] [.ref a] _ _ rfl hr en (hbd s1 (.ref a)) (.cons rfl .nil) hsp) fun res s' h => ?_
  match res, h with
  | .error e, h =>
    obtain ⟨_, _, _, _, _, _, _, _, _, _, _, _, z⟩ := h
    exact z.elim
  | .ok .next, h => exact h.elim
  | .ok .brk, h => exact h.elim
  | .ok .cont, h => exact h.elim
  | .ok (.ret u), h =>
    obtain ⟨v, H', os, bare, un, hok', rv, q⟩ := h
    have q2 : v = .bl true := q
    rw [q2] at rv
    cases (show u = Value.bool true from rv)
    refine ⟨rfl, OldK.of_keep fun b o e => ?_, os, bare⟩
    rcases g.only b with z | ⟨ob, xs, z⟩
    · refine un.keep b o e z (fun k => ?_) (by simp)
      cases (show b ∈ ([] : List Addr) from k)
    · have e1 := (hok b _ z).1
      have e2 := (hok' b _ (un.frzs b ob _ z)).1
      rw [e] at e1
      cases e1
      exact e2
theorem ints_vals : ∀ {vs : List Value} {ns : List Int}, IntsAre vs ns → Vals (ns.map V.int) vs
  | _, _, .nil => .nil
  | _, _, .cons n t h => .cons ⟨t, rfl⟩ (ints_vals h)
theorem law_at (KX : K.In s1.heap) (hG : s1.heap.Ns mainGlobals mg) (hB : s1.heap.Ns builtinsNs mb) (hBb : ∀ y : Str, y ≠ "__name__" → mb y = bootBuiltins y) (hL : s1.heap.NoLimit) (hgen : s1.gens = #[])
    (ha : s1.heap.get? a = some { cls := .type "list", data := .seq vs.toArray }) (hi : IntsAre vs ns) (hn : ns.length ≤ sizeLine) (hr : Room r callerA) (F : ∀ base : Heap, K.In base → base.Ns mainGlobals mg → FnG P w K mg base r fa fd [x] sp)
    (hbd : ∀ (s : Shared) (u : Value), BindsTo s fd ⟨[u], []⟩ [(x, u)]) (hsp : ∀ H : Hp, Only H → SqL K H a (ns.map V.int) → sp [.ref a] H (fun v _ => v = .bl true) fun _ _ _ => False) :
    codeAny (model P w) callerA (.call (.ref fa) ⟨[.ref a], []⟩) (Wish s1) s1 := by
  have rv := ints_vals hi
  have ln := hi.length
  cases hk : K.lookup a with
  | some o =>
    have e := KX a o hk
    rw [ha] at e
    cases e
    have on : Only (fun _ => none : Hp) := fun _ => .inl rfl
    have sq : SqL K (fun _ => none : Hp) a (ns.map V.int) := .inr ⟨_, vs.toArray, _, hk, rfl, rfl, rfl, by rw [List.size_toArray, ln]; exact hn, by simpa using rv⟩
    refine law_from ⟨on, fun b u z => ?_, fun ⟨u, z⟩ => ?_⟩ KX hG hB hBb hL hgen ha hr F hbd (fun b u z => ?_) (hsp _ on sq)
    · cases (show (none : Option HO) = some u from z)
    · cases (show (none : Option HO) = some u from z)
    · cases (show (none : Option HO) = some u from z)
  | none =>
    have at_a : ∀ {b : Addr} {u : HO}, upd (fun _ => none) a (.frz { cls := .type "list", data := .seq vs.toArray } (.lst (ns.map V.int))) b = some u → b = a ∧ u = .frz { cls := .type "list", data := .seq vs.toArray } (.lst (ns.map V.int)) := fun {b u} z => by
      by_cases q : b = a
      · rw [q, upd_same] at z; cases z; exact ⟨q, rfl⟩
      · rw [upd_ne q] at z; cases z
    have on : Only (upd (fun _ => none) a (.frz { cls := .type "list", data := .seq vs.toArray } (.lst (ns.map V.int)))) := fun b => by
      by_cases q : b = a
      · rw [q, upd_same]; exact .inr ⟨_, _, rfl⟩
      · exact .inl (upd_ne q)
    refine law_from ⟨on, fun b u z => (at_a z).1, fun _ => hk⟩ KX hG hB hBb hL hgen ha hr F hbd (fun b u z => ?_) (hsp _ on (.inl (.inr ⟨_, upd_same⟩)))
    obtain ⟨e1, e2⟩ := at_a z
    subst e1 e2
    exact ⟨ha, by rw [List.length_map]; exact hn, vs, _, rv, ha⟩
end
/-- the goal of the head, from the law's promise -/
theorem walk_end {l : PySem.W.OpenLaw} {n r : Nat} {q : Program} {loose : List Str} {XP : (Str → Option Value) → Heap → Prop} {YP : World → Heap → Prop} {d : DefRec} {x : Str} (hn : l.most = some n) (hn2 : n ≤ sizeLine) (hdf : d.params.defaults = []) (hr : Room r callerA)
    (F : ∀ (w : World) (mg : Str → Option Value) (fa : Addr) (h : Heap), YP w h → h.Ns mainGlobals mg → mg d.name = some (.ref fa) → ∃ (K : PySem.W.Frag) (fd : FuncData) (sp : Sp), K.In h ∧ (∀ (s : Shared) (u : Value), BindsTo s fd ⟨[u], []⟩ [(x, u)]) ∧
      (∀ (H : Hp) (a : Addr) (ns : List Int), ns.length ≤ n → Only H → SqL K H a (ns.map V.int) → sp [.ref a] H (fun v _ => v = .bl true) fun _ _ _ => False) ∧ ∀ base : Heap, K.In base → base.Ns mainGlobals mg → FnG l.prog w K mg base r fa fd [x] sp) :
    PySem.W.WalkO q loose XP YP l.row.toRowW d [] (fun f vs => PySem.call f vs) := by
  refine Att.attach_call hn hdf fun w s0 s1 mg mb fa o pm cd doc a vs ns G Y ho hd hcd hmg hobj hints hlen hgen => ?_
  obtain ⟨K, fd, sp, KX, hb, hsp, hF⟩ := F w mg fa _ Y G.T.g hmg
  exact law_at KX G.T.g G.T.b G.T.builtins G.T.nolimit hgen hobj hints (Nat.le_trans hlen hn2) hr hF hb fun H hO hS => hsp H a ns hlen hO hS
end PF

set_option linter.all false
set_option maxRecDepth 100000
namespace PF
open PySem PySem.Spec PyProof.Rows L2

/-! ### how calls bind -/
def selW : List Sel → List Value → List Value → List Value → List Value
  | [], _, _, _ => []
  | .p i :: r, its, us, ws => us.getD i .none :: selW r its us ws
  | .k i :: r, its, us, ws => ws.getD i .none :: selW r its us ws
  | .d j _ :: r, its, us, ws => its.getD j .none :: selW r its us ws
/-- the default j is v -/
def isDv : He.Dv → PV → Bool
  | .non, .non => true
  | .bl a, .bl b => a == b
  | .int a, .int b => a == b
  | .str a, .str b => decide (a = b)
  | _, _ => false
theorem isDv_ok {K : PySem.W.Frag} {a : He.Dv} {v : PV} (h : isDv a v = true) : He.Dv.v K a = cV v ∧ isC v = true := by
  cases a <;> cases v <;> first | (cases h; done) | skip
  · exact ⟨rfl, rfl⟩
  · rw [beq_iff_eq.mp h]; exact ⟨rfl, rfl⟩
  · rw [beq_iff_eq.mp h]; exact ⟨rfl, rfl⟩
  · rw [of_decide_eq_true h]; exact ⟨rfl, rfl⟩
def selB (dfl : List He.Dv) (n m : Nat) : List Sel → Bool
  | [] => true
  | .p i :: r => decide (i < n) && selB dfl n m r
  | .k i :: r => decide (i < m) && selB dfl n m r
  | .d j v :: r => (match dfl[j]? with
    | some a => isDv a v
    | none => false) && selB dfl n m r
theorem selB_c {dfl : List He.Dv} {n m : Nat} : ∀ {sel : List Sel}, selB dfl n m sel = true → selC sel = true
  | [], _ => rfl
  | .p i :: r, h => by
    unfold selB at h
    rw [Bool.and_eq_true] at h
    exact selB_c (sel := r) h.2
  | .k i :: r, h => by
    unfold selB at h
    rw [Bool.and_eq_true] at h
    exact selB_c (sel := r) h.2
  | .d j v :: r, h => by
    unfold selB at h
    rw [Bool.and_eq_true] at h
    have h1 := h.1
    split at h1
    · show (isC v && selC r) = true
      rw [(isDv_ok (K := []) h1).2, selB_c (sel := r) h.2]; rfl
    · cases h1
theorem vals_getD {vs : List V} {us : List Value} (r : Vals vs us) {i : Nat} (h : i < vs.length) : RelV (vs.getD i .non) (us.getD i .none) := by
  obtain ⟨u, h1, h2⟩ := r.get (i := i) (x := vs[i]) (by rw [List.getElem?_eq_getElem h])
  rw [List.getD_eq_getElem?_getD, List.getD_eq_getElem?_getD, h1, List.getElem?_eq_getElem h]
  exact h2
theorem sel_vals {K : PySem.W.Frag} {dfl : List He.Dv} {its : List Value} (ri : Vals (dfl.map (He.Dv.v K)) its) {vs zs : List V} {us ws : List Value} (r1 : Vals vs us) (r2 : Vals zs ws) : ∀ {sel : List Sel}, selB dfl vs.length zs.length sel = true → Vals (selV sel vs zs) (selW sel its us ws)
  | [], _ => .nil
  | .p i :: r, h => by
    unfold selB at h
    rw [Bool.and_eq_true, decide_eq_true_eq] at h
    exact .cons (vals_getD r1 h.1) (sel_vals ri r1 r2 h.2)
  | .k i :: r, h => by
    unfold selB at h
    rw [Bool.and_eq_true, decide_eq_true_eq] at h
    exact .cons (vals_getD r2 h.1) (sel_vals ri r1 r2 h.2)
  | .d j v :: r, h => by
    unfold selB at h
    rw [Bool.and_eq_true] at h
    have h1 := h.1
    split at h1
    · rename_i a e
      refine .cons ?_ (sel_vals ri r1 r2 h.2)
      obtain ⟨u, e1, e2⟩ := ri.get (i := j) (x := He.Dv.v K a) (by rw [List.getElem?_map, e]; rfl)
      rw [(isDv_ok (K := K) h1).1] at e2
      rw [List.getD_eq_getElem?_getD, e1]
      exact e2
    · cases h1
theorem selW_len (its us ws : List Value) : ∀ sel : List Sel, (selW sel its us ws).length = sel.length
  | [] => rfl
  | .p _ :: r => congrArg Nat.succ (selW_len its us ws r)
  | .k _ :: r => congrArg Nat.succ (selW_len its us ws r)
  | .d _ _ :: r => congrArg Nat.succ (selW_len its us ws r)
/-- what is to be shown of a call's form: the binding's own run -/
def BindEq (d : DefT) (n : Nat) (ks : List Str) (sel : List Sel) : Prop := ∀ (T : Addr) (kV doc pm : Value) (an : Option Addr) (cdv ct : Value) (us its ws : List Value), us.length = n → its.length = d.d.dfl.length → ws.length = ks.length →
  (d.d.dfl = [] → bindArgs (PySem.W.fnOf d.d.name d.d.qual d.d.params d.d.body d.d.scope .none kV doc pm an cdv ct) ⟨us, ks.zip ws⟩ = pure (d.ps.zip (selW sel its us ws))) ∧
  (d.d.dfl ≠ [] → ∃ k, bindArgs (PySem.W.fnOf d.d.name d.d.qual d.d.params d.d.body d.d.scope (.ref T) kV doc pm an cdv ct) ⟨us, ks.zip ws⟩ = seqItems? (.ref T) >>= k ∧ k (some its.toArray) = pure (d.ps.zip (selW sel its us ws)))
theorem bd_of {B : Env1} {d : DefT} {f n : Nat} {ks : List Str} {sel : List Sel} {kws : List (Str × V)} (F : FunD B.L.K d.d.name d.d.qual d.d.params d.d.body d.d.scope (d.d.dvs B.L.K) kws (B.fa f) (B.fd f)) (hp : B.ps f = d.ps) (hl : sel.length = d.ps.length) (hs : selB d.d.dfl n ks.length sel = true) (h : BindEq d n ks sel) : Bd B f n ks sel := by
  refine ⟨by rw [hp]; exact hl, selB_c hs, ?_⟩
  obtain ⟨oc, od, dV, kV, doc, pm, an, cdv, ct, osl, e, lk, hcd, hD, hK⟩ := F.ex
  rw [hp]
  rcases hD with ⟨e1, e2⟩ | ⟨e1, T, o, its, m, e2, lT, oT, rT⟩
  · have d0 : d.d.dfl = [] := by
      have : d.d.dfl.map (He.Dv.v B.L.K) = [] := e1
      simpa using this
    refine ⟨fun us ws => selW sel [] us ws, fun s us ws _ l1 l2 => ?_, fun vs zs us ws l1 l2 r1 r2 => ?_⟩
    · rw [e, e2]
      exact .of_eq ((h 0 kV doc pm an cdv ct us [] ws l1 (by rw [d0]; rfl) l2).1 d0)
    · exact sel_vals (K := B.L.K) (dfl := d.d.dfl) (by rw [d0]; exact .nil) r1 r2 (by rw [l1, l2]; exact hs)
  · have d0 : d.d.dfl ≠ [] := fun z => e1 (by
      show d.d.dfl.map _ = []
      rw [z]; rfl)
    have li : its.length = d.d.dfl.length := by
      have := rT.length
      rw [← this]
      exact List.length_map ..
    refine ⟨fun us ws => selW sel its us ws, fun s us ws kin l1 l2 => ?_, fun vs zs us ws l1 l2 r1 r2 => ?_⟩
    · obtain ⟨k, q1, q2⟩ := (h T kV doc pm an cdv ct us its ws l1 li l2).2 d0
      refine BindsTo.of_looks fun M => ?_
      rw [e, e2, q1]
      exact looks_items kin lT oT (.of_pure q2)
    · exact sel_vals (K := B.L.K) rT r1 r2 (by rw [l1, l2]; exact hs)

theorem all_cons {α : Type} {Q : α → Prop} {a : α} {l : List α} (h : Q a) (r : ∀ p ∈ l, Q p) : ∀ p ∈ a :: l, Q p := fun p hp => (List.mem_cons.mp hp).elim (fun e => by rw [e]; exact h) (r p)
/-! ### the program's facts, from the head's -/
/-- what can be looked at in the text alone -/
def PgT.good2 (t : PgT) : Bool :=
  t.fnL.all (fun p => match t.defs[p.2]? with
    | some d => decide (d.d.at_ = (p.1, none))
    | none => false) &&
  (t.clL.all (fun p => match t.cls[p.2]? with
    | some d => decide (d.name = p.1) && (match t.defs[d.init]? with
      | some e => decide (e.d.at_ = (p.1, some ("__init__" : Str)))
      | none => false)
    | none => false) &&
  (t.cls.all (fun c => t.clL.any (fun p => decide (p.1 = c.name)) && c.meths.all fun m => match t.defs[m.2]? with
    | some d => decide (d.d.at_ = (c.name, some m.1))
    | none => false) &&
  t.glL.all fun p => match p.2 with
    | .int _ => true
    | .str _ => true
    | _ => false))
/-- the forms of calls -/
structure Shapes (t : PgT) : Prop where
  f : ∀ p ∈ t.shF, ∃ d, t.defs[p.1.1]? = some d ∧ p.2.length = d.ps.length ∧ selB d.d.dfl p.1.2.1 p.1.2.2.length p.2 = true ∧ BindEq d p.1.2.1 p.1.2.2 p.2
  m : ∀ p ∈ t.shM, ∃ c d, t.cls[p.1.1]? = some c ∧ t.defs[c.init]? = some d ∧ p.2.length + 1 = d.ps.length ∧ selB d.d.dfl (p.1.2.1 + 1) p.1.2.2.length (.p 0 :: p.2.map Sel.up) = true ∧ BindEq d (p.1.2.1 + 1) p.1.2.2 (.p 0 :: p.2.map Sel.up)
  mt : ∀ p ∈ t.shT, ∀ c ∈ t.cls, ∀ f, c.meths.lookup p.1.1 = some f → ∃ d, t.defs[f]? = some d ∧ p.2.length + 1 = d.ps.length ∧ selB d.d.dfl (p.1.2.1 + 1) p.1.2.2.length (.p 0 :: p.2.map Sel.up) = true ∧ BindEq d (p.1.2.1 + 1) p.1.2.2 (.p 0 :: p.2.map Sel.up)
  e : ∀ c ∈ t.cls, ∀ f, c.meths.lookup ("__eq__" : Str) = some f → ∃ d, t.defs[f]? = some d ∧ 2 = d.ps.length ∧ BindEq d 2 [] [.p 0, .p 1]
def mkB (t : PgT) (P : Program) (w : World) (K : PySem.W.Frag) (mg : Str → Option Value) (base : Heap) (fd : Nat → FuncData) : Env1 :=
  ⟨⟨P, w, K, mg, base, clK t K⟩, fun _ => [], fun i => He.fAd K ((t.defs[i]?.map (·.d.at_)).getD ("", none)), fd, fun i => (t.defs[i]?.map (·.ps)).getD []⟩
theorem mem_lookup {α β : Type} [BEq α] [LawfulBEq α] {l : List (α × β)} {a : α} {b : β} (h : l.lookup a = some b) : (a, b) ∈ l := by
  induction l with
  | nil => cases h
  | cons p l ih =>
    obtain ⟨x, y⟩ := p
    rw [List.lookup_cons] at h
    cases e : a == x with
    | true =>
      rw [e] at h
      cases h
      rw [beq_iff_eq.mp e]
      exact List.mem_cons_self ..
    | false =>
      rw [e] at h
      exact List.mem_cons_of_mem _ (ih h)
section
variable {t : PgT} {P : Program} {w : World} {K : PySem.W.Frag} {mg : Str → Option Value} {base h : Heap} {fd : Nat → FuncData}
theorem fds_of (c : He.SaysD t.fa t.fn K) (f0 : FuncData) : ∃ fd : Nat → FuncData, ∀ (i : Nat) (d : DefT), t.defs[i]? = some d → FunD K d.d.name d.d.qual d.d.params d.d.body d.d.scope (d.d.dvs K) (d.d.kws K) (He.fAd K d.d.at_) (fd i) := by
  have key : ∀ i : Nat, ∃ q : FuncData, ∀ d : DefT, t.defs[i]? = some d → FunD K d.d.name d.d.qual d.d.params d.d.body d.d.scope (d.d.dvs K) (d.d.kws K) (He.fAd K d.d.at_) q := fun i => by
    cases e : t.defs[i]? with
    | none => exact ⟨f0, fun d z => nomatch z⟩
    | some d =>
      obtain ⟨q, hq⟩ := c.defs (d := d.d) (List.mem_map.mpr ⟨d, List.mem_of_getElem? e, rfl⟩)
      exact ⟨q, fun d' z => by cases z; exact hq⟩
  exact ⟨fun i => Classical.choose (key i), fun i d e => Classical.choose_spec (key i) d e⟩
theorem fa_free {x : Str} (hx : x ∈ t.free) : He.Fa.free x ∈ t.fa := by
  unfold PgT.fa
  simp only [List.mem_append, List.mem_map]
  exact .inl (.inl (.inl (.inl ⟨x, hx, rfl⟩)))
theorem fa_fn {p : Str × Nat} (hx : p ∈ t.fnL) : He.Fa.glo p.1 ∈ t.fa := by
  unfold PgT.fa
  simp only [List.mem_append, List.mem_map]
  exact .inl (.inl (.inl (.inr ⟨p, hx, rfl⟩)))
theorem fa_cl {p : Str × Nat} (hx : p ∈ t.clL) : He.Fa.glo p.1 ∈ t.fa := by
  unfold PgT.fa
  simp only [List.mem_append, List.mem_map]
  exact .inl (.inl (.inr ⟨p, hx, rfl⟩))
theorem fa_gl {p : Str × PV} (hx : p ∈ t.glL) : (match p.2 with
    | .int i => He.Fa.int p.1 i
    | .str z => He.Fa.str p.1 z
    | _ => He.Fa.free "") ∈ t.fa := by
  unfold PgT.fa
  simp only [List.mem_append, List.mem_map]
  exact .inl (.inr ⟨p, hx, rfl⟩)
theorem fa_cls {c : ClsD} (hx : c ∈ t.cls) {f : He.Fa} (hf : f ∈ [He.Fa.cls c.name, He.Fa.mkr c.name] ++ c.flds.map (He.Fa.noat c.name) ++ c.meths.map fun m => He.Fa.meth c.name m.1) : f ∈ t.fa := by
  unfold PgT.fa
  simp only [List.mem_append, List.mem_flatMap]
  exact .inr ⟨c, hx, by simpa only [List.mem_append] using hf⟩
theorem pok_of (X : K.In h) (G : h.Ns mainGlobals mg) (c : He.SaysX t.fa t.fn [] [] (isiB t) w h K) (hg : t.good2 = true) (sh : Shapes t)
    (hfd : ∀ (i : Nat) (d : DefT), t.defs[i]? = some d → FunD K d.d.name d.d.qual d.d.params d.d.body d.d.scope (d.d.dvs K) (d.d.kws K) (He.fAd K d.d.at_) (fd i)) : POk (mkB t P w K mg base fd) t := by
  have cd : He.SaysD t.fa t.fn K := c.t.d
  unfold PgT.good2 at hg
  simp only [Bool.and_eq_true, List.all_eq_true] at hg
  obtain ⟨g1, g2, g3, g4⟩ := hg
  have faA : ∀ (i : Nat) (d : DefT), t.defs[i]? = some d → (mkB t P w K mg base fd).fa i = He.fAd K d.d.at_ := fun i d e => by
    show He.fAd K ((t.defs[i]?.map (·.d.at_)).getD ("", none)) = _
    rw [e]; rfl
  have psA : ∀ (i : Nat) (d : DefT), t.defs[i]? = some d → (mkB t P w K mg base fd).ps i = d.ps := fun i d e => by
    show (t.defs[i]?.map (·.ps)).getD [] = _
    rw [e]; rfl
  have dfA : ∀ (i : Nat) (d : DefT), t.defs[i]? = some d → FunD K d.d.name d.d.qual d.d.params d.d.body d.d.scope (d.d.dvs K) (d.d.kws K) ((mkB t P w K mg base fd).fa i) (fd i) := fun i d e => by
    rw [faA i d e]; exact hfd i d e
  have clA : ∀ (k : Nat) (d : ClsD), t.cls[k]? = some d → clK t K k = He.ga K d.name := fun k d e => by
    unfold clK
    rw [List.getD_eq_getElem?_getD, e]; rfl
  have clsF : ∀ (k : Nat) (d : ClsD), t.cls[k]? = some d → Cls K (clK t K k) := fun k d e => by
    rw [clA k d e]
    exact He.cls_ok (cd.facts (fa_cls (List.mem_of_getElem? e) (by simp)))
  have inits : ∀ x k, t.clL.lookup x = some k → ∃ d e, t.cls[k]? = some d ∧ d.name = x ∧ t.defs[d.init]? = some e ∧ e.d.at_ = (x, some ("__init__" : Str)) := fun x k hx => by
    have z := g2 _ (mem_lookup hx)
    dsimp only at z
    split at z
    · rename_i d e
      rw [Bool.and_eq_true, decide_eq_true_eq] at z
      have z2 := z.2
      split at z2
      · rename_i e2 q
        exact ⟨d, e2, e, z.1, q, of_decide_eq_true z2⟩
      · cases z2
    · cases z
  refine ⟨⟨fun k hk => ?_, fun k f hf => ?_, fun k m f hm => ?_, fun k hk => ?_, fun k a b hr => ?_, fun a b r hr => ?_⟩, fun x hx => ?_, fun x f hx => ?_, fun x k hx => ?_, fun x k hx => ?_, fun f n ks sel hs => ?_, fun m k f hm => ?_, fun m n ks sel hs k f hm => ?_, fun k f hm => ?_, fun x v hx => ?_, fun i d e => ⟨psA i d e, _, _, dfA i d e⟩⟩
  · have hk : k < t.cls.length := hk
    have z := List.all_eq_true.mp c.more k (List.mem_range.mpr hk)
    simp only [Bool.and_eq_true] at z
    obtain ⟨z1, _⟩ := z
    unfold obB at z1
    simp only [Bool.and_eq_true, decide_eq_true_eq] at z1
    obtain ⟨q1, q2, q3, q4⟩ := z1
    exact ⟨clsF k _ (List.getElem?_eq_getElem hk), q1, q2, q3, q4⟩
  · have hf : (t.cls.getD k default).flds.contains f = true := hf
    cases e : t.cls[k]? with
    | none =>
      rw [List.getD_eq_getElem?_getD, e] at hf
      cases hf
    | some d =>
      rw [List.getD_eq_getElem?_getD, e] at hf
      refine ⟨clsF k d e, ?_⟩
      show NoAttr K (clK t K k) f
      rw [clA k d e]
      refine He.noat_ok (cd.facts (fa_cls (List.mem_of_getElem? e) ?_))
      have hm : f ∈ d.flds := by simpa using hf
      simp only [List.mem_append, List.mem_map]
      exact .inl (.inr ⟨f, hm, rfl⟩)
  · have hm : (t.cls.getD k default).meths.lookup m = some f := hm
    cases e : t.cls[k]? with
    | none =>
      rw [List.getD_eq_getElem?_getD, e] at hm
      cases hm
    | some d =>
      rw [List.getD_eq_getElem?_getD, e] at hm
      have hm : d.meths.lookup m = some f := hm
      refine ⟨clsF k d e, ?_⟩
      have z := (g3 d (List.mem_of_getElem? e)).2 _ (mem_lookup hm)
      dsimp only at z
      split at z
      · rename_i e2 q
        have q2 := of_decide_eq_true z
        rw [faA f e2 q, q2]
        show Meth K (clK t K k) m (He.ma K (He.ga K d.name) m)
        rw [clA k d e]
        exact He.meth_ok (cd.facts (fa_cls (List.mem_of_getElem? e) (by
          simp only [List.mem_append, List.mem_map]
          exact .inr ⟨_, mem_lookup hm, rfl⟩)))
      · cases z
  · have z := List.all_eq_true.mp c.more k (List.mem_range.mpr hk)
    simp only [Bool.and_eq_true, decide_eq_true_eq] at z
    obtain ⟨z1, z2, z3, z4, z5⟩ := z
    unfold obB at z1
    simp only [Bool.and_eq_true, decide_eq_true_eq] at z1
    exact ⟨z4, z1.2.2.2⟩
  · have all : ∀ k, k < t.cls.length → (∀ j, j < t.cls.length → PySem.W.subIn K (.ref (clK t K k)) (.ref (clK t K j)) = some (k == j || (t.cls.getD k default).above.contains j)) ∧
        ∀ a ∈ isiTys, PySem.W.subIn K (.type a) (.ref (clK t K k)) = some false := fun k hk => by
      have z := List.all_eq_true.mp c.more k (List.mem_range.mpr hk)
      simp only [Bool.and_eq_true, List.all_eq_true, decide_eq_true_eq, List.mem_range] at z
      exact ⟨z.2.2.2.2.1, z.2.2.2.2.2⟩
    cases a with
    | b a =>
      simp only [subOne] at hr
      split at hr
      · rename_i q
        cases hr
        rw [Bool.and_eq_true, decide_eq_true_eq] at q
        exact (all k q.1).2 a (by simpa using q.2)
      · cases hr
    | c j =>
      simp only [subOne] at hr
      split at hr
      · rename_i q
        cases hr
        rw [Bool.and_eq_true, decide_eq_true_eq, decide_eq_true_eq] at q
        exact (all j q.1).1 k q.2
      · cases hr
  · -- isinstance
    have all : ∀ k, k < t.cls.length → (∀ j, j < t.cls.length → PySem.W.kitOne K (.ref (clK t K k)) (.ref (clK t K j)) = some (k == j || (t.cls.getD k default).above.contains j)) ∧
        ∀ a ∈ isiTys, PySem.W.kitOne K (.type a) (.ref (clK t K k)) = some false ∧ PySem.W.kitOne K (.ref (clK t K k)) (.type a) = some false := fun k hk => by
      have z := List.all_eq_true.mp c.more k (List.mem_range.mpr hk)
      simp only [Bool.and_eq_true, List.all_eq_true, decide_eq_true_eq, List.mem_range] at z
      exact ⟨z.2.1, z.2.2.1⟩
    cases a with
    | b a =>
      cases b with
      | b b =>
        simp only [isiOne] at hr
        split at hr
        · rename_i e
          cases hr
          refine kit_ty ?_
          unfold kitB
          rw [beq_iff_eq.mp e, if_pos (by simp)]
        · exact kit_ty hr
      | c j =>
        simp only [isiOne] at hr
        split at hr
        · rename_i q
          cases hr
          rw [Bool.and_eq_true, decide_eq_true_eq] at q
          exact ((all j q.1).2 a (by simpa using q.2)).1
        · cases hr
    | c k =>
      cases b with
      | b b =>
        simp only [isiOne] at hr
        split at hr
        · rename_i q
          cases hr
          rw [Bool.and_eq_true, decide_eq_true_eq] at q
          exact ((all k q.1).2 b (by simpa using q.2)).2
        · cases hr
      | c j =>
        simp only [isiOne] at hr
        split at hr
        · rename_i q
          cases hr
          rw [Bool.and_eq_true, decide_eq_true_eq, decide_eq_true_eq] at q
          exact (all k q.1).1 j q.2
        · cases hr
  · exact He.free_ok X G (cd.facts (fa_free (by simpa using hx)))
  · have z := g1 _ (mem_lookup hx)
    dsimp only at z
    split at z
    · rename_i d e
      refine ⟨(List.getElem?_eq_some_iff.mp e).1, ?_⟩
      rw [faA f d e, of_decide_eq_true z]
      exact He.glo_ok X G (cd.facts (fa_fn (mem_lookup hx)))
    · cases z
  · obtain ⟨d, e2, e, en, _⟩ := inits x k hx
    show mg x = some (.ref (clK t K k))
    rw [clA k d e, en]
    exact He.glo_ok X G (cd.facts (fa_cl (mem_lookup hx)))
  · obtain ⟨d, e2, e, en, q, qa⟩ := inits x k hx
    refine ⟨d, e, (List.getElem?_eq_some_iff.mp q).1, ?_, fun n ks sel hs => ?_⟩
    · show Mk K (clK t K k) _
      rw [clA k d e, faA _ e2 q, qa, en]
      have m := He.mkr_ok (cd.facts (f := He.Fa.mkr d.name) (fa_cls (List.mem_of_getElem? e) (by simp)))
      rw [en] at m
      exact m
    · obtain ⟨c2, d2, k1, k2, k3, k4, k5⟩ := sh.m _ (mem_lookup hs)
      rw [show t.cls[k]? = some c2 from k1] at e
      cases e
      exact bd_of (dfA _ d2 k2) (psA _ d2 k2) (by rw [List.length_cons, List.length_map]; exact k3) k4 k5
  · obtain ⟨d2, k2, k3, k4, k5⟩ := sh.f _ (mem_lookup hs)
    exact bd_of (dfA _ d2 k2) (psA _ d2 k2) k3 k4 k5
  · cases e : t.cls[k]? with
    | none =>
      rw [List.getD_eq_getElem?_getD, e] at hm
      cases hm
    | some d =>
      rw [List.getD_eq_getElem?_getD, e] at hm
      have hm : d.meths.lookup m = some f := hm
      have z := (g3 d (List.mem_of_getElem? e)).2 _ (mem_lookup hm)
      dsimp only at z
      split at z
      · rename_i e2 q
        exact (List.getElem?_eq_some_iff.mp q).1
      · cases z
  · cases e : t.cls[k]? with
    | none =>
      rw [List.getD_eq_getElem?_getD, e] at hm
      cases hm
    | some d =>
      rw [List.getD_eq_getElem?_getD, e] at hm
      have hm : d.meths.lookup m = some f := hm
      obtain ⟨d2, k2, k3, k4, k5⟩ := sh.mt _ (mem_lookup hs) d (List.mem_of_getElem? e) f hm
      exact bd_of (dfA _ d2 k2) (psA _ d2 k2) (by rw [List.length_cons, List.length_map]; exact k3) k4 k5
  · cases e : t.cls[k]? with
    | none =>
      rw [List.getD_eq_getElem?_getD, e] at hm
      cases hm
    | some d =>
      rw [List.getD_eq_getElem?_getD, e] at hm
      obtain ⟨d2, k2, k3, k4⟩ := sh.e d (List.mem_of_getElem? e) f hm
      exact bd_of (dfA _ d2 k2) (psA _ d2 k2) k3 (by rfl) k4
  · have z := g4 _ (mem_lookup hx)
    have z2 := cd.facts (fa_gl (mem_lookup hx))
    cases v with
    | int i =>
      obtain ⟨tk, q⟩ := He.int_ok X G z2
      exact ⟨_, .int i, q, rfl, tk, rfl⟩
    | str y =>
      obtain ⟨tk, q⟩ := He.str_ok X G z2
      exact ⟨_, .str y, q, rfl, tk, rfl⟩
    | _ => cases z
end
end PF

set_option linter.all false
set_option maxRecDepth 100000
namespace PF
open PySem PySem.Spec PyProof.Rows L2

/-- what a law's def promises: at a script it gives True -/
def SpLaw (K : PySem.W.Frag) (n : Nat) : Sp := fun vs H Q _ => ∃ (a : Addr) (ns : List Int), vs = [.ref a] ∧ ns.length ≤ n ∧ SqL K H a (ns.map V.int) ∧ ∀ H', Q (.bl true) H'
section
variable {t : PgT} {P : Program} {w : World} {mg : Str → Option Value} {h : Heap} {fa : Addr}
/-- THE LAW, from what its pure program gives -/
theorem law_of {n m li : Nat} {dl : DefT} {x y : Str} (Y : (t.hk).says w h) (G : h.Ns mainGlobals mg) (hfa : mg x = some (.ref fa)) (hd : t.defs[li]? = some dl) (hat : dl.d.at_ = (x, none)) (hps : dl.ps = [y]) (hx : t.fnL.lookup x = some li)
    (g1 : t.good = true) (g2 : t.good2 = true) (sh : Shapes t) (hd0 : dl.d.dfl = []) (hb : BindEq dl 1 [] [.p 0]) (pure_ : ∀ ns : List Int, ns.length ≤ n → ∃ S', (calls t.pg m).fn li [.scr ns] [] = .ok (.bl true, S')) :
    ∃ (K : PySem.W.Frag) (fd : FuncData) (sp : Sp), K.In h ∧ (∀ (s : Shared) (u : Value), BindsTo s fd ⟨[u], []⟩ [(y, u)]) ∧
      (∀ (H : Hp) (a : Addr) (ns : List Int), ns.length ≤ n → Only H → SqL K H a (ns.map V.int) → sp [.ref a] H (fun v _ => v = .bl true) fun _ _ _ => False) ∧ ∀ base : Heap, K.In base → base.Ns mainGlobals mg → FnG P w K mg base (2 * m) fa fd [y] sp := by
  obtain ⟨K, X, c⟩ := Y
  have cd : He.SaysD t.fa t.fn K := c.t.d
  obtain ⟨f0, _⟩ := cd.defs (d := dl.d) (List.mem_map.mpr ⟨dl, List.mem_of_getElem? hd, rfl⟩)
  obtain ⟨fd, hfd⟩ := fds_of (t := t) cd f0
  have e := hfa.symm.trans (He.glo_ok X G (cd.facts (fa_fn (mem_lookup hx))))
  cases e
  have F := hfd li dl hd
  refine ⟨K, fd li, SpLaw K n, X, fun s u => ?_, fun H a ns hl _ hS => ⟨a, ns, rfl, hl, hS, fun _ => rfl⟩, fun base KB GB => ?_⟩
  · obtain ⟨oc, od, dV, kV, doc, pm, an, cdv, ct, osl, e, lk, hcd, hD, hK⟩ := F.ex
    rcases hD with ⟨_, e2⟩ | ⟨e1, _⟩
    · rw [e, e2]
      have q := (hb 0 kV doc pm an cdv ct [u] [] [] rfl (by rw [hd0]; rfl) rfl).1 hd0
      rw [hps] at q
      exact .of_eq q
    · exact absurd (show dl.d.dfl.map _ = [] by rw [hd0]; rfl) e1
  · have p := pok_of (P := P) (base := base) KB GB ⟨c.t, c.more, (fun p hp => nomatch hp), (fun p hp => nomatch hp), fun p hp => nomatch hp⟩ g2 sh hfd
    have q := (all_ok p g1 m).1 li (List.getElem?_eq_some_iff.mp hd).1
    have e1 : (mkB t P w K mg base fd).fa li = He.ga K x := by
      show He.fAd K ((t.defs[li]?.map (·.d.at_)).getD ("", none)) = _
      rw [hd]
      show He.fAd K dl.d.at_ = _
      rw [hat]; rfl
    have e2 : (mkB t P w K mg base fd).ps li = [y] := by
      show (t.defs[li]?.map (·.ps)).getD [] = _
      rw [hd]; exact hps
    rw [e1, e2] at q
    refine ⟨fun vs H Q E ⟨a, ns, z, _⟩ => by rw [z]; rfl, fun A outer s H args us vs Q E hg hr en hbd rv ⟨a, ns, z, hl, hS, hQ⟩ => q.go A outer s H args us vs Q E hg hr en hbd rv ?_⟩
    obtain ⟨S', eq⟩ := pure_ ns hl
    subst z
    refine ⟨rfl, [], H, [], [.scr ns], ⟨.refl, rfl, fun k a xs z => (by simp at z), (fun a z => nomatch z), List.nodup_nil⟩, repL_cons ?_ repL_nil, ?_⟩
    · simp only [Rep]
      exact ⟨a, rfl, hS⟩
    · rw [eq]
      intro Λ' G' H' _ _ v rv
      simp only [Rep] at rv
      rw [rv]
      exact hQ H'
end
end PF

/-! PFw: what the pure programs give, step by step: judgements with a wish behind them -/
set_option linter.all false
set_option maxRecDepth 100000
namespace PW
open PF
abbrev EV := PF.Env
open PySem
/-- what m gives -/
def W {α : Type} (m : M α) (S : Sto) (Q : α → Sto → Prop) : Prop := match m S with
  | .ok (a, S') => Q a S'
  | _ => False
/-- a partial operation -/
def OP {α : Type} (o : Option α) (S : Sto) (Q : α → Sto → Prop) : Prop := ∃ z, o = some z ∧ Q z S
/-- a test's two ways -/
structure BR (k : Bool) (A B : Prop) : Prop where
  t : k = true → A
  f : k = false → B
section
variable {α β : Type} {m : M α} {f : α → M β} {S S' : Sto} {Q Q' : α → Sto → Prop} {R : β → Sto → Prop} {a : α}
theorem w_of (h : m S = .ok (a, S')) (q : Q a S') : W m S Q := by unfold W; rw [h]; exact q
theorem w_bnd (h : W m S fun a S1 => W (f a) S1 R) : W (bnd m f) S R := by
  unfold W bnd at *
  cases q : m S with
  | ok p => rw [q] at h; exact h
  | exc _ _ _ => rw [q] at h; exact h.elim
  | stk => rw [q] at h; exact h.elim
theorem w_ret (h : Q a S) : W (ret a) S Q := h
theorem w_opt {o : Option α} (h : OP o S Q) : W (opt o) S Q := by
  obtain ⟨z, rfl, q⟩ := h
  exact q
theorem w_imp (h : W m S Q) (k : ∀ a S', Q a S' → Q' a S') : W m S Q' := by
  unfold W at *
  cases q : m S with
  | ok p => rw [q] at h; exact k _ _ h
  | exc _ _ _ => rw [q] at h; exact h.elim
  | stk => rw [q] at h; exact h.elim
theorem w_ex (h : W m S Q) : ∃ a S', m S = .ok (a, S') ∧ Q a S' := by
  unfold W at h
  cases q : m S with
  | ok p => rw [q] at h; exact ⟨p.1, p.2, rfl, h⟩
  | exc _ _ _ => rw [q] at h; exact h.elim
  | stk => rw [q] at h; exact h.elim
theorem w_eq (h : W m S fun v S1 => v = a ∧ S1 = S') : m S = .ok (a, S') := by
  obtain ⟨v, S1, e, rfl, rfl⟩ := w_ex h
  exact e
theorem w_noExc (h : W m S Q) : W (noExc m) S Q := by
  obtain ⟨a, S', e, q⟩ := w_ex h
  refine w_of (S' := S') (a := a) ?_ q
  unfold noExc
  rw [e]
theorem op_of {o : Option α} {z : α} (h : o = some z) (q : Q z S) : OP o S Q := ⟨z, h, q⟩
theorem op_rfl {z : α} (q : Q z S) : OP (some z) S Q := ⟨z, rfl, q⟩
theorem br_t {k : Bool} {A B : Prop} (h : k = true) (a : A) : BR k A B := ⟨(fun _ => a), (fun z => by rw [h] at z; cases z)⟩
theorem br_f {k : Bool} {A B : Prop} (h : k = false) (b : B) : BR k A B := ⟨(fun z => by rw [h] at z; cases z), (fun _ => b)⟩
theorem br_tt {A B : Prop} (a : A) : BR true A B := br_t rfl a
theorem br_ff {A B : Prop} (b : B) : BR false A B := br_f rfl b
end
section
variable (pg : Pg) (C : Calls)
/-- an expression, a test, arguments, a bound, an iterable, rows -/
def WE (e : Ex) (ρ : EV) (S : Sto) (Q : PV → Sto → Prop) : Prop := W (evP pg C e ρ).1 S Q
def WT (e : Ex) (ρ : EV) (S : Sto) (Q : Bool → Sto → Prop) : Prop := W (evP pg C e ρ).2 S Q
def WA (es : Exs) (ρ : EV) (S : Sto) (Q : List PV → Sto → Prop) : Prop := W (evs pg C es ρ) S Q
def WO (e : Exo) (ρ : EV) (S : Sto) (Q : Option Int → Sto → Prop) : Prop := W (evo pg C e ρ) S Q
def WI (i : Itx) (ρ : EV) (S : Sto) (Q : List PV → Sto → Prop) : Prop := W (evI pg C i ρ) S Q
def WS (ss : Stts) (ρ : EV) (S : Sto) (P : Res → Prop) : Prop := P (exs pg C ss ρ S)
def WX (s : Stt) (ρ : EV) (S : Sto) (P : Res → Prop) : Prop := P (ex pg C s ρ S)
def WL (tg : Tgt) (b : Stts) (xs : List PV) (ρ : EV) (S : Sto) (P : Res → Prop) : Prop := P (forL tg (fun ρ S => exs pg C b ρ S) xs ρ S)
def WW (c : Ex) (b : Stts) (n : Nat) (ρ : EV) (S : Sto) (P : Res → Prop) : Prop := P (whlL (fun ρ => evT pg C c ρ) (fun ρ S => exs pg C b ρ S) n ρ S)
end
/-- behind rows: further ones, or what leaves -/
def thP (N : EV → Sto → Prop) (P : Res → Prop) (r : Res) : Prop := match r with
  | .nxt ρ S => N ρ S
  | r => P r
/-- behind a loop's turn -/
def loP (N : EV → Sto → Prop) (P : Res → Prop) (r : Res) : Prop := match r with
  | .nxt ρ S => N ρ S
  | .cnt ρ S => N ρ S
  | .brk ρ S => P (.nxt ρ S)
  | r => P r
/-- a def's end -/
def fnP (Q : PV → Sto → Prop) (r : Res) : Prop := match r with
  | .ret v S => Q v S
  | .nxt _ S => Q .non S
  | _ => False
def initP (Q : PV → Sto → Prop) (r : Res) : Prop := match r with
  | .nxt ρ S => (match ρ.head? with
    | some (.obj c ns xs) => Q (.ins c ns xs) S
    | _ => False)
  | _ => False
/-- what leaves a def leaves its rows -/
def Lv (P : Res → Prop) (Q : PV → Sto → Prop) : Prop := ∀ v S, Q v S → P (.ret v S)
theorem lv_fn {Q : PV → Sto → Prop} : Lv (fnP Q) Q := fun _ _ h => h
theorem lv_th {N : EV → Sto → Prop} {P : Res → Prop} {Q : PV → Sto → Prop} (h : Lv P Q) : Lv (thP N P) Q := h
theorem lv_lo {N : EV → Sto → Prop} {P : Res → Prop} {Q : PV → Sto → Prop} (h : Lv P Q) : Lv (loP N P) Q := h
/-- a slot gets something -/
inductive SetA : EV → Nat → Sl → EV → Prop where
  | z {a s : Sl} {l : EV} : SetA (a :: l) 0 s (s :: l)
  | s {a s : Sl} {l l' : EV} {n : Nat} (h : SetA l n s l') : SetA (a :: l) (n + 1) s (a :: l')
theorem SetA.eq {ρ ρ' : EV} {i : Nat} {s : Sl} (h : SetA ρ i s ρ') : ρ.set i s = ρ' := by
  induction h with
  | z => rfl
  | s _ ih => rw [List.set_cons_succ, ih]
/-- several slots get values -/
inductive SetAs : List Nat → List PV → EV → EV → Prop where
  | nil {ρ : EV} : SetAs [] [] ρ ρ
  | cons {i : Nat} {is : List Nat} {v : PV} {vs : List PV} {ρ ρ1 ρ' : EV} (h : SetA ρ i (.val v) ρ1) (r : SetAs is vs ρ1 ρ') : SetAs (i :: is) (v :: vs) ρ ρ'
theorem SetAs.eq {is : List Nat} {vs : List PV} {ρ ρ' : EV} (h : SetAs is vs ρ ρ') : setTs is vs ρ = some ρ' := by
  induction h with
  | nil => rfl
  | cons h _ ih =>
    unfold setTs
    rw [h.eq]
    exact ih
theorem asg_nm {i : Nat} {v : PV} {ρ ρ' : EV} (h : SetA ρ i (.val v) ρ') : asgT (.nm i) v ρ = some ρ' := by
  show some (ρ.set i (.val v)) = _
  rw [h.eq]
theorem asg_tp {is : List Nat} {vs : List PV} {ρ ρ' : EV} (h : SetAs is vs ρ ρ') : asgT (.tp is) (.tup vs) ρ = some ρ' := h.eq
inductive WipeA : EV → List Nat → EV → Prop where
  | nil {ρ : EV} : WipeA ρ [] ρ
  | cons {i : Nat} {is : List Nat} {ρ ρ1 ρ' : EV} (r : WipeA ρ is ρ1) (h : SetA ρ1 i .emp ρ') : WipeA ρ (i :: is) ρ'
theorem WipeA.eq {ρ ρ' : EV} {is : List Nat} (h : WipeA ρ is ρ') : wipeE ρ is = ρ' := by
  induction h with
  | nil => rfl
  | cons _ h ih =>
    unfold wipeE
    rw [ih, h.eq]
theorem asg_w {t : Tgt} {v : PV} {ρ ρ1 ρ' : EV} {vs : List Nat} (h : WipeA ρ vs ρ1) (k : asgT t v ρ1 = some ρ') : asgT t v (wipeE ρ vs) = some ρ' := by rw [h.eq]; exact k
section
variable {pg : Pg} {C : Calls} {ρ ρ' ρ1 : EV} {S S' : Sto} {a b c e : Ex} {es kv : Exs} {Q : PV → Sto → Prop} {QB : Bool → Sto → Prop} {QL : List PV → Sto → Prop} {QO : Option Int → Sto → Prop} {P : Res → Prop}
/-! ### expressions -/
theorem we_of {v : PV} (h : (evP pg C e ρ).1 S = .ok (v, S')) (q : Q v S') : WE pg C e ρ S Q := w_of h q
theorem we_cst {v : PV} (h : Q v S) : WE pg C (.cst v) ρ S Q := h
theorem we_glb {x : Str} {v : PV} (h : Q v S) : WE pg C (.glb x v) ρ S Q := h
theorem we_var {i : Nat} {v : PV} (h : ρ[i]? = some (.val v)) (q : Q v S) : WE pg C (.var i) ρ S Q := by
  refine w_of (a := v) (S' := S) ?_ q
  show rdV ρ i S = _
  unfold rdV
  rw [h]; rfl
theorem we_borV {i : Nat} {v : PV} (h : ρ[i]? = some (.val v)) (q : Q v S) : WE pg C (.bor i) ρ S Q := by
  refine w_of (a := v) (S' := S) ?_ q
  show rdB ρ i S = _
  unfold rdB
  rw [h]; rfl
theorem we_borO {i : Nat} {xs : List PV} (h : ρ[i]? = some (.own xs)) (q : Q (.lst xs) S) : WE pg C (.bor i) ρ S Q := by
  refine w_of (a := .lst xs) (S' := S) ?_ q
  show rdB ρ i S = _
  unfold rdB
  rw [h]; rfl
theorem we_bin {o : Bop} (h : WE pg C a ρ S fun x S1 => WE pg C b ρ S1 fun y S2 => OP (binP o x y) S2 Q) : WE pg C (.bin o a b) ρ S Q :=
  w_bnd (w_imp h fun _ _ h => w_bnd (w_imp h fun _ _ h => w_opt h))
theorem we_neg (h : WE pg C a ρ S fun x S1 => ∃ i, x = .int i ∧ Q (.int (-i)) S1) : WE pg C (.neg a) ρ S Q := by
  show W (bnd (evP pg C a ρ).1 fun x => match x with | .int i => ret (PV.int (-i)) | _ => stuck) S _
  refine w_bnd (w_imp h fun x S1 h => ?_)
  obtain ⟨i, rfl, q⟩ := h
  exact q
theorem we_not (h : WE pg C a ρ S fun x S1 => OP (truP x) S1 fun k S2 => Q (.bl (!k)) S2) : WE pg C (.not a) ρ S Q :=
  show W (bnd (evP pg C a ρ).1 fun x => bnd (opt (truP x)) fun b => ret (PV.bl (!b))) S Q from w_bnd (w_imp h fun _ _ h => w_bnd (w_imp (w_opt h) fun _ _ h => h))
theorem we_and (h : WE pg C a ρ S fun x S1 => ∃ k, x = .bl k ∧ BR k (WE pg C b ρ S1 Q) (Q (.bl false) S1)) : WE pg C (.and a b) ρ S Q := by
  show W (bnd (evP pg C a ρ).1 fun x => bnd (bl! x) fun k => if k then (evP pg C b ρ).1 else ret (PV.bl false)) S _
  refine w_bnd (w_imp h fun x S1 h => ?_)
  obtain ⟨k, rfl, h⟩ := h
  refine w_bnd (w_ret ?_)
  cases k with
  | true => exact h.t rfl
  | false => exact h.f rfl
theorem we_or (h : WE pg C a ρ S fun x S1 => ∃ k, x = .bl k ∧ BR k (Q (.bl true) S1) (WE pg C b ρ S1 Q)) : WE pg C (.or a b) ρ S Q := by
  show W (bnd (evP pg C a ρ).1 fun x => bnd (bl! x) fun k => if k then ret (PV.bl true) else (evP pg C b ρ).1) S _
  refine w_bnd (w_imp h fun x S1 h => ?_)
  obtain ⟨k, rfl, h⟩ := h
  refine w_bnd (w_ret ?_)
  cases k with
  | true => exact h.t rfl
  | false => exact h.f rfl
theorem we_ite (h : WT pg C c ρ S fun k S1 => BR k (WE pg C a ρ S1 Q) (WE pg C b ρ S1 Q)) : WE pg C (.ite c a b) ρ S Q := by
  show W (bnd (evP pg C c ρ).2 fun k => if k then (evP pg C a ρ).1 else (evP pg C b ρ).1) S _
  refine w_bnd (w_imp h fun k S1 h => ?_)
  cases k with
  | true => exact h.t rfl
  | false => exact h.f rfl
theorem we_isn (h : WE pg C a ρ S fun x S1 => Q (.bl (isNon x)) S1) : WE pg C (.cmp .isn a b) ρ S Q := show W (bnd (evP pg C a ρ).1 fun x => ret (PV.bl (isNon x))) S Q from w_bnd h
theorem we_notn (h : WE pg C a ρ S fun x S1 => Q (.bl (!isNon x)) S1) : WE pg C (.cmp .notn a b) ρ S Q := show W (bnd (evP pg C a ρ).1 fun x => ret (PV.bl (!isNon x))) S Q from w_bnd h
def notNon : Cop → Bool
  | .isn => false
  | .notn => false
  | _ => true
/-- a comparison of two values -/
def CM (pg : Pg) (C : Calls) (o : Cop) (x y : PV) (S : Sto) (Q : Bool → Sto → Prop) : Prop := W (cmpM pg C o x y) S Q
theorem we_cmp {o : Cop} (ho : notNon o = true) (h : WE pg C a ρ S fun x S1 => WE pg C b ρ S1 fun y S2 => CM pg C o x y S2 fun k S3 => Q (.bl k) S3) : WE pg C (.cmp o a b) ρ S Q := by
  have e : (evP pg C (.cmp o a b) ρ).1 = bnd (evP pg C a ρ).1 fun x => bnd (evP pg C b ρ).1 fun y => bnd (cmpM pg C o x y) fun k => ret (.bl k) := by
    cases o <;> first | rfl | cases ho
  unfold WE
  rw [e]
  exact w_bnd (w_imp h fun _ _ h => w_bnd (w_imp h fun _ _ h => w_bnd h))
theorem we_chn {o r : Cop} (h : WE pg C a ρ S fun x S1 => WE pg C b ρ S1 fun y S2 => OP (cmpP o x y) S2 fun k S3 => BR k (WE pg C c ρ S3 fun z S4 => OP (cmpP r y z) S4 fun k S5 => Q (.bl k) S5) (Q (.bl false) S3)) : WE pg C (.chn o r a b c) ρ S Q := by
  show W (bnd (evP pg C a ρ).1 fun x => bnd (evP pg C b ρ).1 fun y => bnd (opt (cmpP o x y)) fun k => if k then bnd (evP pg C c ρ).1 fun z => bnd (opt (cmpP r y z)) fun k => ret (PV.bl k) else ret (PV.bl false)) S _
  refine w_bnd (w_imp h fun x S1 h => w_bnd (w_imp h fun y S2 h => w_bnd (w_imp (w_opt h) fun k S3 h => ?_)))
  cases k with
  | true => exact (show W (bnd (evP pg C c ρ).1 fun z => bnd (opt (cmpP r y z)) fun k => ret (PV.bl k)) S3 Q from w_bnd (w_imp (h.t rfl) fun z S4 h => w_bnd (w_imp (w_opt h) fun k S5 h => h)))
  | false => exact h.f rfl
theorem we_tup (h : WA pg C es ρ S fun xs S1 => xs.length ≤ line ∧ Q (.tup xs) S1) : WE pg C (.tup es) ρ S Q := by
  show W (bnd (evs pg C es ρ) fun xs => if xs.length ≤ line then ret (PV.tup xs) else stuck) S _
  refine w_bnd (w_imp h fun xs S1 h => ?_)
  rw [if_pos h.1]
  exact h.2
theorem we_lst (h : WA pg C es ρ S fun xs S1 => xs.length ≤ line ∧ Q (.lst xs) S1) : WE pg C (.lst es) ρ S Q := by
  show W (bnd (evs pg C es ρ) fun xs => if xs.length ≤ line then ret (PV.lst xs) else stuck) S _
  refine w_bnd (w_imp h fun xs S1 h => ?_)
  rw [if_pos h.1]
  exact h.2
/-- through the store -/
def DR (x : PV) (S : Sto) (Q : PV → Sto → Prop) : Prop := W (der x) S Q
theorem we_idx (h : WE pg C a ρ S fun x S1 => WE pg C b ρ S1 fun y S2 => DR x S2 fun x S3 => OP (idxP x y) S3 Q) : WE pg C (.idx a b) ρ S Q :=
  w_bnd (w_imp h fun _ _ h => w_bnd (w_imp h fun _ _ h => w_bnd (w_imp h fun _ _ h => w_opt h)))
theorem dr_lst {xs : List PV} (h : Q (.lst xs) S) : DR (.lst xs) S Q := h
theorem dr_tup {xs : List PV} (h : Q (.tup xs) S) : DR (.tup xs) S Q := h
theorem dr_str {x : Str} (h : Q (.str x) S) : DR (.str x) S Q := h
theorem dr_loc {k : Nat} {xs : List PV} (e : S[k]? = some xs) (h : Q (.lst xs) S) : DR (.loc k) S Q := by
  refine w_of (a := .lst xs) (S' := S) ?_ h
  unfold der
  dsimp only
  rw [e]
theorem we_slc {lo hi : Exo} (h : WE pg C a ρ S fun x S1 => WO pg C lo ρ S1 fun l S2 => WO pg C hi ρ S2 fun h S3 => OP (slcP x l h) S3 Q) : WE pg C (.slc a lo hi) ρ S Q :=
  w_bnd (w_imp h fun _ _ h => w_bnd (w_imp h fun _ _ h => w_bnd (w_imp h fun _ _ h => w_opt h)))
theorem wo_none (h : QO none S) : WO pg C .none ρ S QO := h
theorem wo_some (h : WE pg C e ρ S fun x S1 => ∃ i, x = .int i ∧ QO (some i) S1) : WO pg C (.some e) ρ S QO := by
  show W (bnd (evP pg C e ρ).1 fun x => bnd (opt (toI x)) fun i => ret (some i)) S _
  refine w_bnd (w_imp h fun x S1 h => ?_)
  obtain ⟨i, rfl, h⟩ := h
  exact w_bnd (w_ret h)
theorem we_att {f : Str} (h : WE pg C a ρ S fun x S1 => OP (attP pg f x) S1 Q) : WE pg C (.att a f) ρ S Q := w_bnd (w_imp h fun _ _ h => w_opt h)
theorem we_atO {i : Nat} {f : Str} {v : PV} (e : rdO ρ i = some v) (h : OP (attP pg f v) S Q) : WE pg C (.atO i f) ρ S Q := by
  obtain ⟨z, h1, h2⟩ := h
  refine w_of (a := z) (S' := S) ?_ h2
  show opt ((rdO ρ i).bind (attP pg f)) S = _
  rw [e, Option.bind_some, h1]; rfl
theorem we_bif {k : Bif} (h : WA pg C es ρ S fun xs S1 => OP (bifP k xs) S1 Q) : WE pg C (.bif k es) ρ S Q := w_bnd (w_imp h fun _ _ h => w_opt h)
theorem we_isi {ts : List Ty} (h : WE pg C a ρ S fun x S1 => ∃ t k, tyP x = some t ∧ isiP pg t ts = some k ∧ Q (.bl k) S1) : WE pg C (.isi a ts) ρ S Q := by
  show W (bnd (evP pg C a ρ).1 fun x => bnd (opt (tyP x)) fun t => bnd (opt (isiP pg t ts)) fun b => ret (PV.bl b)) S _
  refine w_bnd (w_imp h fun x S1 h => ?_)
  obtain ⟨t, k, h1, h2, h3⟩ := h
  exact w_bnd (w_opt ⟨t, h1, w_bnd (w_opt ⟨k, h2, h3⟩)⟩)
theorem we_call {f : Nat} {sel : List Sel} (h : WA pg C es ρ S fun xs S1 => WA pg C kv ρ S1 fun ys S2 => OP (selP sel xs ys) S2 fun zs S3 => W (C.fn f zs) S3 Q) : WE pg C (.call f es kv sel) ρ S Q :=
  w_bnd (w_imp h fun _ _ h => w_bnd (w_imp h fun _ _ h => w_bnd (w_imp (w_opt h) fun _ _ h => h)))
theorem we_make {f : Nat} {sel : List Sel} (h : WA pg C es ρ S fun xs S1 => WA pg C kv ρ S1 fun ys S2 => OP (selP sel xs ys) S2 fun zs S3 => W (C.new f zs) S3 Q) : WE pg C (.make f es kv sel) ρ S Q :=
  w_bnd (w_imp h fun _ _ h => w_bnd (w_imp h fun _ _ h => w_bnd (w_imp (w_opt h) fun _ _ h => h)))
theorem we_meth {m : Str} {sel : List Sel} (h : WE pg C a ρ S fun x S0 => OP (methP pg m x) S0 fun f S1 => WA pg C es ρ S1 fun xs S2 => WA pg C kv ρ S2 fun ys S3 => OP (selP sel xs ys) S3 fun zs S4 => W (C.fn f (x :: zs)) S4 Q) : WE pg C (.meth a m es kv sel) ρ S Q :=
  w_bnd (w_imp h fun _ _ h => w_bnd (w_imp (w_opt h) fun _ _ h => w_bnd (w_imp h fun _ _ h => w_bnd (w_imp h fun _ _ h => w_bnd (w_imp (w_opt h) fun _ _ h => h)))))
theorem wa_nil (h : QL [] S) : WA pg C .nil ρ S QL := h
theorem wa_cons (h : WE pg C e ρ S fun x S1 => WA pg C es ρ S1 fun xs S2 => QL (x :: xs) S2) : WA pg C (.cons e es) ρ S QL := w_bnd (w_imp h fun _ _ h => w_bnd h)
/-! ### tests -/
theorem wt_not (h : WT pg C a ρ S fun k S1 => QB (!k) S1) : WT pg C (.not a) ρ S QB := show W (bnd (evP pg C a ρ).2 fun k => ret (!k)) S QB from w_bnd h
theorem wt_and (h : WT pg C a ρ S fun k S1 => BR k (WT pg C b ρ S1 QB) (QB false S1)) : WT pg C (.and a b) ρ S QB := by
  show W (bnd (evP pg C a ρ).2 fun k => if k then (evP pg C b ρ).2 else ret false) S _
  refine w_bnd (w_imp h fun k S1 h => ?_)
  cases k with
  | true => exact h.t rfl
  | false => exact h.f rfl
theorem wt_or (h : WT pg C a ρ S fun k S1 => BR k (QB true S1) (WT pg C b ρ S1 QB)) : WT pg C (.or a b) ρ S QB := by
  show W (bnd (evP pg C a ρ).2 fun k => if k then ret true else (evP pg C b ρ).2) S _
  refine w_bnd (w_imp h fun k S1 h => ?_)
  cases k with
  | true => exact h.t rfl
  | false => exact h.f rfl
/-- forms whose test is the truth of their value -/
def plainX : Ex → Bool
  | .not _ => false
  | .and _ _ => false
  | .or _ _ => false
  | .ite _ _ _ => false
  | .stk => false
  | _ => true
theorem wt_val (hp : plainX e = true) (h : WE pg C e ρ S fun x S1 => OP (truP x) S1 QB) : WT pg C e ρ S QB := by
  have q : (evP pg C e ρ).2 = bnd (evP pg C e ρ).1 fun x => opt (truP x) := by
    cases e <;> first | rfl | cases hp
  unfold WT
  rw [q]
  exact w_bnd (w_imp h fun _ _ h => w_opt h)
theorem wt_cmp {o : Cop} (ho : notNon o = true) (h : WE pg C a ρ S fun x S1 => WE pg C b ρ S1 fun y S2 => CM pg C o x y S2 QB) : WT pg C (.cmp o a b) ρ S QB :=
  wt_val rfl (we_cmp ho (w_imp h fun _ _ h => w_imp h fun _ _ h => w_imp h fun k _ h => ⟨k, rfl, h⟩))
theorem wt_isn (h : WE pg C a ρ S fun x S1 => QB (isNon x) S1) : WT pg C (.cmp .isn a b) ρ S QB := wt_val rfl (we_isn (w_imp h fun _ _ h => ⟨_, rfl, h⟩))
theorem wt_notn (h : WE pg C a ρ S fun x S1 => QB (!isNon x) S1) : WT pg C (.cmp .notn a b) ρ S QB := wt_val rfl (we_notn (w_imp h fun _ _ h => ⟨_, rfl, h⟩))
/-! ### comparisons of two values -/
theorem cm_p {o : Cop} {x y : PV} {k : Bool} (hx : cmpM pg C o x y = opt (cmpP o x y)) (h : cmpP o x y = some k) (q : QB k S) : CM pg C o x y S QB := by
  unfold CM
  rw [hx]
  exact w_opt ⟨k, h, q⟩
theorem cm_ltI {i j : Int} (q : QB (decide (i < j)) S) : CM pg C .lt (.int i) (.int j) S QB := q
theorem cm_gtI {i j : Int} (q : QB (decide (j < i)) S) : CM pg C .gt (.int i) (.int j) S QB := q
theorem cm_leI {i j : Int} (q : QB (decide (i ≤ j)) S) : CM pg C .le (.int i) (.int j) S QB := q
theorem cm_geI {i j : Int} (q : QB (decide (j ≤ i)) S) : CM pg C .ge (.int i) (.int j) S QB := q
theorem cm_ltS {i j : Str} (q : QB (strLt i j) S) : CM pg C .lt (.str i) (.str j) S QB := q
theorem cm_eqI {i j : Int} (q : QB (i == j) S) : CM pg C .eq (.int i) (.int j) S QB := q
theorem cm_neI {i j : Int} (q : QB (!(i == j)) S) : CM pg C .ne (.int i) (.int j) S QB := q
def noIns : PV → Bool
  | .ins _ _ _ => false
  | _ => true
theorem cmpM_p {o : Cop} {x y : PV} (h : noIns x = true) : cmpM pg C o x y = opt (cmpP o x y) := by
  cases x <;> first | rfl | cases h
theorem okN_noIns {n : Nat} {x : PV} (h : okN n x = true) : noIns x = true := by
  cases x <;> first | rfl | simp [okN] at h
theorem cm_eq {x y : PV} {k : Bool} (h1 : okN 64 x = true) (h2 : okN 64 y = true) (h3 : eqP x y = k) (q : QB k S) : CM pg C .eq x y S QB :=
  cm_p (cmpM_p (okN_noIns h1)) (show (if (isS x && isS y) || (okN 64 x && okN 64 y) then some (eqP x y) else none) = _ by rw [h1, h2, h3, Bool.and_true, Bool.or_true]; rfl) q
theorem cm_ne {x y : PV} {k : Bool} (h1 : okN 64 x = true) (h2 : okN 64 y = true) (h3 : eqP x y = k) (q : QB (!k) S) : CM pg C .ne x y S QB :=
  cm_p (cmpM_p (okN_noIns h1)) (show (if (isS x && isS y) || (okN 64 x && okN 64 y) then some (!eqP x y) else none) = _ by rw [h1, h2, h3, Bool.and_true, Bool.or_true]; rfl) q
theorem cm_in {x y : PV} {k : Bool} (hx : noIns x = true) (h : PF.inP x y = some k) (q : QB k S) : CM pg C .in_ x y S QB := cm_p (cmpM_p hx) h q
/-- by an own __eq__ -/
theorem cm_eqO {c f : Nat} {ns : List Str} {xs : List PV} {y : PV} (hf : (pg.cls.getD c default).meths.lookup ("__eq__" : Str) = some f) (hs : subOk pg c y = true) (h : W (C.fn f [.ins c ns xs, y]) S fun v S1 => ∃ k, v = .bl k ∧ QB k S1) : CM pg C .eq (.ins c ns xs) y S QB := by
  show W (eqC pg C c (.ins c ns xs) y) S QB
  unfold eqC
  rw [hf]
  dsimp only
  rw [if_pos hs]
  refine w_bnd (w_noExc (w_imp h fun v S1 h => ?_))
  obtain ⟨k, rfl, h⟩ := h
  exact h
theorem cm_neO {c f : Nat} {ns : List Str} {xs : List PV} {y : PV} (hf : (pg.cls.getD c default).meths.lookup ("__eq__" : Str) = some f) (hs : subOk pg c y = true) (h : W (C.fn f [.ins c ns xs, y]) S fun v S1 => ∃ k, v = .bl k ∧ QB (!k) S1) : CM pg C .ne (.ins c ns xs) y S QB := by
  show W (bnd (eqC pg C c (.ins c ns xs) y) fun k => ret (!k)) S QB
  exact w_bnd (cm_eqO (pg := pg) (C := C) (QB := fun k S1 => W (ret (!k)) S1 QB) hf hs h)
/-! ### iterables -/
theorem wi_val (h : WE pg C e ρ S fun x S1 => (∃ xs, x = .lst xs ∧ QL xs S1) ∨ (∃ xs, x = .tup xs ∧ QL xs S1) ∨ ∃ z, x = .str z ∧ QL (z.cps.toList.map fun c => .str ⟨#[c]⟩) S1) : WI pg C (.val e) ρ S QL := by
  show W (bnd (evP pg C e ρ).1 fun x => match x with | .lst xs => ret xs | .tup xs => ret xs | .str x => ret (x.cps.toList.map fun c => PV.str ⟨#[c]⟩) | _ => stuck) S _
  refine w_bnd (w_imp h fun x S1 h => ?_)
  rcases h with ⟨xs, rfl, h⟩ | ⟨xs, rfl, h⟩ | ⟨xs, rfl, h⟩ <;> exact h
theorem wi_rng1 (h : WE pg C e ρ S fun x S1 => ∃ j, x = .int j ∧ inR j = true ∧ QL ((List.range j.toNat).map fun (i : Nat) => .int (i : Int)) S1) : WI pg C (.rng1 e) ρ S QL := by
  show W (bnd (evP pg C e ρ).1 fun x => match x with | .int j => if inR j then ret ((List.range j.toNat).map fun (i : Nat) => PV.int (i : Int)) else stuck | _ => stuck) S _
  refine w_bnd (w_imp h fun x S1 h => ?_)
  obtain ⟨j, rfl, h1, h2⟩ := h
  show W (if inR j then _ else _) S1 _
  rw [if_pos h1]
  exact h2
theorem wi_rng2 (h : WE pg C a ρ S fun x S1 => WE pg C b ρ S1 fun y S2 => ∃ i j, x = .int i ∧ y = .int j ∧ (inR i && inR j) = true ∧ QL ((List.range (j - i).toNat).map fun (n : Nat) => .int (i + n)) S2) : WI pg C (.rng2 a b) ρ S QL := by
  show W (bnd (evP pg C a ρ).1 fun x => bnd (evP pg C b ρ).1 fun y => match x, y with | .int i, .int j => if inR i && inR j then ret ((List.range (j - i).toNat).map fun (n : Nat) => PV.int (i + n)) else stuck | _, _ => stuck) S _
  refine w_bnd (w_imp h fun x S1 h => w_bnd (w_imp h fun y S2 h => ?_))
  obtain ⟨i, j, rfl, rfl, h1, h2⟩ := h
  show W (if inR i && inR j then _ else _) S2 _
  rw [if_pos h1]
  exact h2
theorem wi_zip (h : WE pg C a ρ S fun x S1 => WE pg C b ρ S1 fun y S2 => ∃ xs ys, x = .lst xs ∧ y = .lst ys ∧ QL (List.zipWith (fun x y => .tup [x, y]) xs ys) S2) : WI pg C (.zip a b) ρ S QL := by
  show W (bnd (evP pg C a ρ).1 fun x => bnd (evP pg C b ρ).1 fun y => match x, y with | .lst xs, .lst ys => ret (List.zipWith (fun x y => PV.tup [x, y]) xs ys) | _, _ => stuck) S _
  refine w_bnd (w_imp h fun x S1 h => w_bnd (w_imp h fun y S2 h => ?_))
  obtain ⟨i, j, rfl, rfl, h2⟩ := h
  exact h2
theorem wi_enum (h : WE pg C a ρ S fun x S1 => ∃ xs, x = .lst xs ∧ QL (xs.zipIdx.map fun p => .tup [.int (p.2 : Int), p.1]) S1) : WI pg C (.enum a) ρ S QL := by
  show W (bnd (evP pg C a ρ).1 fun x => match x with | .lst xs => ret (xs.zipIdx.map fun p => PV.tup [.int (p.2 : Int), p.1]) | _ => stuck) S _
  refine w_bnd (w_imp h fun x S1 h => ?_)
  obtain ⟨i, rfl, h2⟩ := h
  exact h2
/-! ### comprehensions -/
/-- one item of a comprehension -/
def lcF (pg : Pg) (C : Calls) (elt : Ex) (tg : Tgt) (cs : Exo) (vs : List Nat) (ρ : EV) (x : PV) : M (Option PV) :=
  bnd (opt (asgT tg x (wipeE ρ vs))) fun ρ' => noExc (bnd (evc pg C cs ρ') fun k => if k then bnd (evP pg C elt ρ').1 fun y => ret (some y) else ret none)
theorem we_lc {tg : Tgt} {it : Itx} {cs : Exo} {vs : List Nat} (h : WI pg C it ρ S fun xs S1 => xs.length ≤ line ∧ W (lcL (lcF pg C e tg cs vs ρ) xs) S1 fun ys S2 => Q (.lst ys) S2) : WE pg C (.lc e tg it cs vs) ρ S Q := by
  show W (bnd (evI pg C it ρ) fun xs => if xs.length ≤ line then bnd (lcL (lcF pg C e tg cs vs ρ) xs) fun ys => ret (PV.lst ys) else stuck) S _
  refine w_bnd (w_imp h fun xs S1 h => ?_)
  rw [if_pos h.1]
  exact w_bnd h.2
theorem lcF_none {tg : Tgt} {vs : List Nat} {x : PV} {R : Option PV → Sto → Prop} (h1 : asgT tg x (wipeE ρ vs) = some ρ') (h : WE pg C e ρ' S fun y S1 => R (some y) S1) : W (lcF pg C e tg .none vs ρ x) S R :=
  w_bnd (w_opt ⟨ρ', h1, w_noExc (show W (bnd (ret true) fun k => if k then bnd (evP pg C e ρ').1 fun y => ret (some y) else ret none) S R from w_bnd (w_ret (show W (bnd (evP pg C e ρ').1 fun y => ret (some y)) S R from w_bnd h)))⟩)
theorem lcF_some {tg : Tgt} {vs : List Nat} {x : PV} {R : Option PV → Sto → Prop} (h1 : asgT tg x (wipeE ρ vs) = some ρ') (h : WT pg C c ρ' S fun k S1 => BR k (WE pg C e ρ' S1 fun y S1 => R (some y) S1) (R none S1)) : W (lcF pg C e tg (.some c) vs ρ x) S R := by
  refine w_bnd (w_opt ⟨ρ', h1, w_noExc (show W (bnd (evP pg C c ρ').2 fun k => if k then bnd (evP pg C e ρ').1 fun y => ret (some y) else ret none) S R from w_bnd (w_imp h fun k S1 h => ?_))⟩)
  cases k with
  | true => exact (show W (bnd (evP pg C e ρ').1 fun y => ret (some y)) S1 R from w_bnd (h.t rfl))
  | false => exact h.f rfl
theorem lcL_map {α : Type} {f : α → PV} {p : α → Bool} {g : α → PV} {F : PV → M (Option PV)} : ∀ {l : List α}, (∀ x ∈ l, W (F (f x)) S fun y S1 => y = (if p x then some (g x) else none) ∧ S1 = S) → lcL F (l.map f) S = .ok ((l.filter p).map g, S)
  | [], _ => rfl
  | x :: xs, h => by
    have ih := lcL_map (l := xs) fun y hy => h y (List.mem_cons_of_mem _ hy)
    obtain ⟨y, S1, e, h1, h2⟩ := w_ex (h x (List.mem_cons_self ..))
    rw [h1, h2] at e
    simp only [List.map_cons, lcL, PF.bnd, e, Out.bnd, ih, PF.ret, List.filter_cons]
    cases p x <;> rfl
/-- [g a for a in l if p a] -/
theorem we_filt {α : Type} {l : List α} (f : α → PV) (p : α → Bool) (g : α → PV) {tg : Tgt} {it : Itx} {cs : Exo} {vs : List Nat} (h : WI pg C it ρ S fun xs S1 => xs = l.map f ∧ l.length ≤ line ∧ (∀ x ∈ l, W (lcF pg C e tg cs vs ρ (f x)) S1 fun y S2 => y = (if p x then some (g x) else none) ∧ S2 = S1) ∧ Q (.lst ((l.filter p).map g)) S1) :
    WE pg C (.lc e tg it cs vs) ρ S Q := by
  refine we_lc (w_imp h fun xs S1 h => ?_)
  obtain ⟨rfl, h1, h2, h3⟩ := h
  exact ⟨by rw [List.length_map]; exact h1, w_of (lcL_map h2) h3⟩
/-- [g a for a in l] -/
theorem we_map {α : Type} {l : List α} (f g : α → PV) {tg : Tgt} {it : Itx} {vs : List Nat} (h : WI pg C it ρ S fun xs S1 => xs = l.map f ∧ l.length ≤ line ∧ (∀ x ∈ l, ∃ ρ', asgT tg (f x) (wipeE ρ vs) = some ρ' ∧ WE pg C e ρ' S1 fun y S2 => y = g x ∧ S2 = S1) ∧ Q (.lst (l.map g)) S1) :
    WE pg C (.lc e tg it .none vs) ρ S Q := by
  refine we_filt (l := l) f (fun _ => true) g (w_imp h fun xs S1 h => ?_)
  obtain ⟨h0, h1, h2, h3⟩ := h
  refine ⟨h0, h1, fun x hx => ?_, by rw [List.filter_eq_self.mpr fun _ _ => rfl]; exact h3⟩
  obtain ⟨ρ', q1, q2⟩ := h2 x hx
  exact lcF_none q1 (w_imp q2 fun y S2 q => ⟨by rw [q.1]; rfl, q.2⟩)
theorem lcL_inv {F : PV → M (Option PV)} (I : List PV → List PV → Sto → Prop) : ∀ (xs pre zs : List PV) (S : Sto), I pre zs S → (∀ pre x post zs S, pre ++ x :: post = pre ++ x :: post → x ∈ xs → I pre zs S → W (F x) S fun y S1 => I (pre ++ [x]) (match y with
      | some y => zs ++ [y]
      | none => zs) S1) → W (lcL F xs) S fun ys S1 => I (pre ++ xs) (zs ++ ys) S1
  | [], pre, zs, S, h, _ => by
    refine w_of (a := []) (S' := S) rfl ?_
    rw [List.append_nil, List.append_nil]; exact h
  | x :: xs, pre, zs, S, h, k => by
    refine w_bnd (w_imp (k pre x xs zs S rfl (List.mem_cons_self ..) h) fun y S1 h1 => w_bnd (w_imp (lcL_inv I xs (pre ++ [x]) _ S1 h1 fun p x q zs S e hx => k p x q zs S e (List.mem_cons_of_mem _ hx)) fun ys S2 h2 => ?_))
    show I _ _ _
    cases y with
    | none => simpa using h2
    | some y => simpa using h2
/-- a comprehension by an invariant over what is taken and what is told -/
theorem we_linv {tg : Tgt} {it : Itx} {cs : Exo} {vs : List Nat} (I : List PV → List PV → Sto → Prop) (h : WI pg C it ρ S fun xs S1 => xs.length ≤ line ∧ I [] [] S1 ∧ (∀ pre x zs S, x ∈ xs → I pre zs S → W (lcF pg C e tg cs vs ρ x) S fun y S2 => I (pre ++ [x]) (match y with
      | some y => zs ++ [y]
      | none => zs) S2) ∧ ∀ zs S2, I xs zs S2 → Q (.lst zs) S2) : WE pg C (.lc e tg it cs vs) ρ S Q := by
  refine we_lc (w_imp h fun xs S1 h => ?_)
  obtain ⟨h1, h2, h3, h4⟩ := h
  exact ⟨h1, w_imp (lcL_inv I xs [] [] S1 h2 fun pre x post zs S _ hx hi => h3 pre x zs S hx hi) fun ys S2 hi => h4 ys S2 hi⟩
/-! ### rows -/
theorem ws_nil (h : P (.nxt ρ S)) : WS pg C .nil ρ S P := h
theorem ws_nilT {N : EV → Sto → Prop} (h : N ρ S) : WS pg C .nil ρ S (thP N P) := h
theorem ws_nilL {N : EV → Sto → Prop} (h : N ρ S) : WS pg C .nil ρ S (loP N P) := h
theorem ws_nilF (h : Q .non S) : WS pg C .nil ρ S (fnP Q) := h
variable {s : Stt} {ss : Stts}
theorem ws_cons (h : WX pg C s ρ S (thP (fun ρ S => WS pg C ss ρ S P) P)) : WS pg C (.cons s ss) ρ S P := by
  unfold WX WS at *
  show P (match ex pg C s ρ S with
    | .nxt ρ S => exs pg C ss ρ S
    | r => r)
  cases q : ex pg C s ρ S <;> rw [q] at h <;> exact h
theorem wx_thn {α : Type} {m : M α} {f : α → Sto → Res} (h : W m S fun a S1 => P (f a S1)) : P (PF.thn m ρ S f) := by
  obtain ⟨a, S1, e, q⟩ := w_ex h
  unfold PF.thn
  rw [e]
  exact q
theorem ws_set {i : Nat} (h : WE pg C e ρ S fun v S1 => ∃ ρ', SetA ρ i (.val v) ρ' ∧ WS pg C ss ρ' S1 P) : WS pg C (.cons (.set i e) ss) ρ S P :=
  ws_cons (wx_thn (m := ev pg C e ρ) (P := thP _ P) (w_imp h fun v S1 h => by
    obtain ⟨ρ', h1, h2⟩ := h
    rw [h1.eq]
    exact h2))
theorem ws_setO {i : Nat} (h : WE pg C e ρ S fun v S1 => ∃ xs ρ', v = .lst xs ∧ SetA ρ i (.own xs) ρ' ∧ WS pg C ss ρ' S1 P) : WS pg C (.cons (.setO i e) ss) ρ S P :=
  ws_cons (wx_thn (m := ev pg C e ρ) (P := thP _ P) (w_imp h fun v S1 h => by
    obtain ⟨xs, ρ', rfl, h1, h2⟩ := h
    show thP _ P (.nxt (ρ.set i (.own xs)) S1)
    rw [h1.eq]
    exact h2))
theorem ws_par {i j : Nat} {oa ob : Bool} (h : WE pg C a ρ S fun v S1 => WE pg C b ρ S1 fun w S2 => ∃ s t ρ1 ρ2, slOf oa v = some s ∧ slOf ob w = some t ∧ SetA ρ i s ρ1 ∧ SetA ρ1 j t ρ2 ∧ WS pg C ss ρ2 S2 P) : WS pg C (.cons (.par i j a b oa ob) ss) ρ S P :=
  ws_cons (wx_thn (m := ev pg C a ρ) (P := thP _ P) (w_imp h fun v S1 h => wx_thn (m := ev pg C b ρ) (P := thP _ P) (w_imp h fun w S2 h => by
    obtain ⟨s, t, ρ1, ρ2, h1, h2, h3, h4, h5⟩ := h
    rw [h1, h2]
    show thP _ P (.nxt ((ρ.set i s).set j t) S2)
    rw [h3.eq, h4.eq]
    exact h5)))
theorem ws_unp {t : Tgt} (h : WE pg C e ρ S fun v S1 => ∃ ρ', asgT t v ρ = some ρ' ∧ WS pg C ss ρ' S1 P) : WS pg C (.cons (.unp t e) ss) ρ S P :=
  ws_cons (wx_thn (m := ev pg C e ρ) (P := thP _ P) (w_imp h fun v S1 h => by
    obtain ⟨ρ', h1, h2⟩ := h
    rw [h1]
    exact h2))
theorem ws_exp (h : WE pg C e ρ S fun v S1 => WS pg C ss ρ S1 P) : WS pg C (.cons (.exp e) ss) ρ S P := ws_cons (wx_thn (m := ev pg C e ρ) (P := thP _ P) h)
theorem ws_pas (h : WS pg C ss ρ S P) : WS pg C (.cons .pas ss) ρ S P := ws_cons h
theorem ws_frz {is : List Nat} (h : WS pg C ss (frzE ρ is) S P) : WS pg C (.cons (.frz is) ss) ρ S P := ws_cons h
theorem ws_ret (l : Lv P Q) (h : WE pg C e ρ S Q) : WS pg C (.cons (.ret e) ss) ρ S P := ws_cons (wx_thn (m := ev pg C e ρ) (P := thP _ P) (w_imp h fun v S1 h => l v S1 h))
theorem ws_retN (l : Lv P Q) (h : Q .non S) : WS pg C (.cons .retN ss) ρ S P := ws_cons (l _ _ h)
theorem ws_brk (h : P (.brk ρ S)) : WS pg C (.cons .brk ss) ρ S P := ws_cons h
theorem ws_cnt (h : P (.cnt ρ S)) : WS pg C (.cons .cnt ss) ρ S P := ws_cons h
theorem ws_iff {t f : Stts} (h : WT pg C c ρ S fun k S1 => BR k (WS pg C t ρ S1 (thP (fun ρ S => WS pg C ss ρ S P) P)) (WS pg C f ρ S1 (thP (fun ρ S => WS pg C ss ρ S P) P))) : WS pg C (.cons (.iff c t f) ss) ρ S P :=
  ws_cons (wx_thn (m := evT pg C c ρ) (P := thP _ P) (w_imp h fun k S1 h => by
    cases k with
    | true => exact h.t rfl
    | false => exact h.f rfl))
theorem ws_for {t : Tgt} {i : Itx} {b : Stts} (h : WI pg C i ρ S fun xs S1 => WL pg C t b xs ρ S1 (thP (fun ρ S => WS pg C ss ρ S P) P)) : WS pg C (.cons (.for_ t i b) ss) ρ S P :=
  ws_cons (wx_thn (m := evI pg C i ρ) (P := thP _ P) h)
theorem ws_whl {b : Stts} (h : WW pg C c b pg.whl ρ S (thP (fun ρ S => WS pg C ss ρ S P) P)) : WS pg C (.cons (.whl c b) ss) ρ S P := ws_cons h
theorem ws_fld {i : Nat} {f : Str} (h : WE pg C e ρ S fun v S1 => ∃ cc ns xs ρ', ρ[i]? = some (.obj cc ns xs) ∧ (decide (ns.length < 1000) && (pg.cls.getD cc default).flds.contains f) = true ∧ SetA ρ i (.obj cc (putN f ns) (putX f v ns xs)) ρ' ∧ WS pg C ss ρ' S1 P) : WS pg C (.cons (.fld i f e) ss) ρ S P :=
  ws_cons (wx_thn (m := ev pg C e ρ) (P := thP _ P) (w_imp h fun v S1 h => by
    obtain ⟨cc, ns, xs, ρ', h1, h2, h3, h4⟩ := h
    rw [h1]
    dsimp only
    rw [if_pos h2, h3.eq]
    exact h4))

/-! lists that change -/
def chkB (ρ : EV) (i : Nat) : Bool := match ρ[i]? with
  | some (.own _) => true
  | some (.val (.loc _)) => true
  | _ => false
theorem chk_ok {α : Type} {m : M α} {i : Nat} {R : α → Sto → Prop} (h : chkB ρ i = true) (q : W m S R) : W (bnd (chk ρ i) fun _ => m) S R := by
  refine w_bnd (w_of (a := ()) (S' := S) ?_ q)
  unfold chkB at h
  unfold chk
  split at h
  · rename_i e; rw [e]; rfl
  · rename_i e; rw [e]; rfl
  · cases h
theorem mut_own {i : Nat} {xs ys : List PV} {f : List PV → Option (List PV)} (h : ρ[i]? = some (.own xs)) (h2 : f xs = some ys) (h3 : SetA ρ i (.own ys) ρ') : mutL i ρ S f = .nxt ρ' S := by
  unfold mutL
  rw [h]
  dsimp only
  rw [h2, ← h3.eq]
theorem mut_loc {i k : Nat} {xs ys : List PV} {f : List PV → Option (List PV)} (h : ρ[i]? = some (.val (.loc k))) (h1 : S[k]? = some xs) (h2 : f xs = some ys) (h3 : S.set k ys = S') : mutL i ρ S f = .nxt ρ S' := by
  unfold mutL
  rw [h]
  dsimp only
  rw [h1]
  dsimp only
  rw [h2, ← h3]
theorem ws_sub {i : Nat} {ix : Ex} (h : WE pg C e ρ S fun v S1 => chkB ρ i = true ∧ WE pg C ix ρ S1 fun k S2 => ∃ kk ρ' S', k = .int kk ∧ mutL i ρ S2 (fun xs => (L2.ixN xs.length kk).map fun j => xs.set j v) = .nxt ρ' S' ∧ WS pg C ss ρ' S' P) : WS pg C (.cons (.sub i ix e) ss) ρ S P :=
  ws_cons (wx_thn (m := ev pg C e ρ) (P := thP _ P) (w_imp h fun v S1 h => wx_thn (m := bnd (chk ρ i) fun _ => ev pg C ix ρ) (P := thP _ P) (chk_ok h.1 (w_imp h.2 fun k S2 h => by
    obtain ⟨kk, ρ', S', rfl, h1, h2⟩ := h
    show thP _ P (mutL i ρ S2 _)
    rw [h1]
    exact h2))))
theorem ws_app {i : Nat} (h : chkB ρ i = true ∧ WE pg C e ρ S fun v S1 => ∃ ρ' S', mutL i ρ S1 (fun xs => if xs.length < line then some (xs ++ [v]) else none) = .nxt ρ' S' ∧ WS pg C ss ρ' S' P) : WS pg C (.cons (.app i e) ss) ρ S P :=
  ws_cons (wx_thn (m := bnd (chk ρ i) fun _ => ev pg C e ρ) (P := thP _ P) (chk_ok h.1 (w_imp h.2 fun v S1 h => by
    obtain ⟨ρ', S', h1, h2⟩ := h
    show thP _ P (mutL i ρ S1 _)
    rw [h1]
    exact h2)))
theorem ws_ext {i : Nat} (h : chkB ρ i = true ∧ WE pg C e ρ S fun v S1 => ∃ ys ρ' S', v = .lst ys ∧ mutL i ρ S1 (fun xs => if xs.length + ys.length ≤ line then some (xs ++ ys) else none) = .nxt ρ' S' ∧ WS pg C ss ρ' S' P) : WS pg C (.cons (.ext i e) ss) ρ S P :=
  ws_cons (wx_thn (m := bnd (chk ρ i) fun _ => ev pg C e ρ) (P := thP _ P) (chk_ok h.1 (w_imp h.2 fun v S1 h => by
    obtain ⟨ys, ρ', S', rfl, h1, h2⟩ := h
    show thP _ P (mutL i ρ S1 _)
    rw [h1]
    exact h2)))
theorem ws_appop {i j : Nat} (h : chkB ρ i = true ∧ chkB ρ j = true ∧ WE pg C e ρ S fun v S1 => ∃ k ys n y ρ1 ρ' S', v = .int k ∧ ρ[j]? = some (.own ys) ∧ L2.ixN ys.length k = some n ∧ (decide (i = j) || !inR k) = false ∧ ys[n]? = some y ∧ SetA ρ j (.own (ys.eraseIdx n)) ρ1 ∧ mutL i ρ1 S1 (fun xs => if xs.length < line then some (xs ++ [y]) else none) = .nxt ρ' S' ∧ WS pg C ss ρ' S' P) : WS pg C (.cons (.appop i j e) ss) ρ S P :=
  ws_cons (wx_thn (m := bnd (chk ρ i) fun _ => bnd (chk ρ j) fun _ => ev pg C e ρ) (P := thP _ P) (chk_ok h.1 (chk_ok h.2.1 (w_imp h.2.2 fun v S1 h => by
    obtain ⟨k, ys, n, y, ρ1, ρ', S', rfl, h1, h2, h3, h4, h5, h6, h7⟩ := h
    show thP _ P (match (PV.int k), ρ[j]? with
      | .int k, some (.own ys) => match L2.ixN ys.length k, decide (i = j) || !inR k with
        | some n, false => match ys[n]? with
          | some y => mutL i (ρ.set j (.own (ys.eraseIdx n))) S1 fun xs => if xs.length < line then some (xs ++ [y]) else none
          | none => .stk
        | _, _ => .stk
      | _, _ => .stk)
    rw [h1]
    dsimp only
    rw [h2, h3]
    dsimp only
    rw [h4]
    dsimp only
    rw [h5.eq, h6]
    exact h7))))
theorem ws_retNew (l : Lv P Q) (h : WA pg C es ρ S fun xs S1 => xs.length ≤ line ∧ Q (.loc S1.length) (S1 ++ [xs])) : WS pg C (.cons (.retNew es) ss) ρ S P := by
  refine ws_cons (wx_thn (m := bnd (evs pg C es ρ) fun xs => if xs.length ≤ line then ret xs else stuck) (P := thP _ P) (w_bnd (w_imp h fun xs S1 h => ?_)))
  rw [if_pos h.1]
  exact l _ _ h.2
theorem wl_nil {t : Tgt} {b : Stts} (h : P (.nxt ρ S)) : WL pg C t b [] ρ S P := h
theorem wl_cons {t : Tgt} {b : Stts} {x : PV} {xs : List PV} (h1 : asgT t x ρ = some ρ1) (h : WS pg C b ρ1 S (loP (fun ρ S => WL pg C t b xs ρ S P) P)) : WL pg C t b (x :: xs) ρ S P := by
  unfold WL WS at *
  unfold forL
  rw [h1]
  dsimp only
  cases q : exs pg C b ρ1 S <;> rw [q] at h <;> exact h
/-- a for by an invariant over what is taken -/
theorem wl_inv {t : Tgt} {b : Stts} (I : List PV → EV → Sto → Prop) (hd : ∀ xs ρ S, I xs ρ S → xs = xs) : ∀ (xs pre : List PV) (ρ : EV) (S : Sto), I pre ρ S → (∀ pre x ρ S, x ∈ xs → I pre ρ S → ∃ ρ1, asgT t x ρ = some ρ1 ∧ WS pg C b ρ1 S (loP (I (pre ++ [x])) P)) → (∀ ρ S, I (pre ++ xs) ρ S → P (.nxt ρ S)) → WL pg C t b xs ρ S P
  | [], pre, ρ, S, h, _, d => d ρ S (by rw [List.append_nil]; exact h)
  | x :: xs, pre, ρ, S, h, k, d => by
    obtain ⟨ρ1, h1, h2⟩ := k pre x ρ S (List.mem_cons_self ..) h
    refine wl_cons h1 ?_
    unfold WS at *
    have ih := fun ρ' S' (hi : I (pre ++ [x]) ρ' S') => wl_inv I hd xs (pre ++ [x]) ρ' S' hi (fun p y ρ S hy => k p y ρ S (List.mem_cons_of_mem _ hy)) (fun ρ S hi => d ρ S (by simpa using hi))
    cases q : exs pg C b ρ1 S <;> rw [q] at h2
    · exact ih _ _ h2
    · exact h2
    · exact h2
    · exact ih _ _ h2
    · exact h2
    · exact h2
theorem wl_byI {t : Tgt} {b : Stts} {xs : List PV} (I : List PV → EV → Sto → Prop) (h : I [] ρ S) (k : ∀ pre x ρ S, x ∈ xs → I pre ρ S → ∃ ρ1, asgT t x ρ = some ρ1 ∧ WS pg C b ρ1 S (loP (I (pre ++ [x])) P)) (d : ∀ ρ S, I xs ρ S → P (.nxt ρ S)) : WL pg C t b xs ρ S P :=
  wl_inv I (fun _ _ _ _ => rfl) xs [] ρ S h k d
/-- .. over a list of one's own kind -/
theorem wl_byL {α : Type} {t : Tgt} {b : Stts} {l : List α} {f : α → PV} (I : List α → EV → Sto → Prop) : (h : I [] ρ S) → (∀ pre x post ρ S, l = pre ++ x :: post → I pre ρ S → ∃ ρ1, asgT t (f x) ρ = some ρ1 ∧ WS pg C b ρ1 S (loP (I (pre ++ [x])) P)) → (∀ ρ S, I l ρ S → P (.nxt ρ S)) → WL pg C t b (l.map f) ρ S P := fun h k d => by
  have go : ∀ (post pre : List α) (ρ : EV) (S : Sto), l = pre ++ post → I pre ρ S → WL pg C t b (post.map f) ρ S P := by
    intro post
    induction post with
    | nil => intro pre ρ S e h; exact d ρ S (by rw [e, List.append_nil]; exact h)
    | cons x post ih =>
      intro pre ρ S e h
      obtain ⟨ρ1, h1, h2⟩ := k pre x post ρ S e h
      refine wl_cons h1 ?_
      unfold WS at *
      have ih' := fun ρ' S' (hi : I (pre ++ [x]) ρ' S') => ih (pre ++ [x]) ρ' S' (by simpa using e) hi
      cases q : exs pg C b ρ1 S <;> rw [q] at h2
      · exact ih' _ _ h2
      · exact h2
      · exact h2
      · exact ih' _ _ h2
      · exact h2
      · exact h2
  exact go l [] ρ S rfl h
/-- a while by an invariant and a number that falls -/
theorem ww_by {b : Stts} (I : Nat → EV → Sto → Prop) : ∀ (n k : Nat) (ρ : EV) (S : Sto), k < n → I k ρ S → (∀ k ρ S, I k ρ S → WT pg C c ρ S fun q S1 => BR q (WS pg C b ρ S1 (loP (fun ρ S => ∃ k', k' < k ∧ I k' ρ S) P)) (P (.nxt ρ S1))) → WW pg C c b n ρ S P
  | 0, k, ρ, S, hk, _, _ => absurd hk (by omega)
  | n + 1, k, ρ, S, hk, h, f => by
    have h1 := f k ρ S h
    unfold WW whlL
    refine wx_thn (m := evT pg C c ρ) (w_imp h1 fun q S1 h => ?_)
    have ih := fun ρ' S' (hi : ∃ k', k' < k ∧ I k' ρ' S') => let ⟨k', l, i⟩ := hi; ww_by I n k' ρ' S' (by omega) i f
    cases q with
    | false => exact h.f rfl
    | true =>
      have h := h.t rfl
      unfold WS at h
      rw [if_pos rfl]
      cases q : exs pg C b ρ S1 <;> rw [q] at h
      · exact ih _ _ h
      · exact h
      · exact h
      · exact ih _ _ h
      · exact h
      · exact h
/-! ### defs -/
theorem w_fn {n i : Nat} {d : FnD} {vs : List PV} (hd : pg.fns[i]? = some d) (hl : vs.length = d.np) (he : vs.map Sl.val ++ List.replicate (d.nn - d.np) .emp = ρ) (h : WS pg (calls pg n) d.body ρ S (fnP Q)) : W ((calls pg (n + 1)).fn i vs) S Q := by
  have e : (calls pg (n + 1)).fn i vs = runF pg (calls pg n) d vs := by
    show (match pg.fns[i]? with
      | some d => runF pg (calls pg n) d vs
      | none => stuck) = _
    rw [hd]
  rw [e]
  unfold W runF
  rw [if_pos hl, he]
  unfold WS at h
  cases q : exs pg (calls pg n) d.body ρ S <;> rw [q] at h <;> exact h
theorem w_new {n c : Nat} {cd : ClsD} {d : FnD} {vs : List PV} (hc : pg.cls[c]? = some cd) (hd : pg.fns[cd.init]? = some d) (hl : vs.length + 1 = d.np) (he : .obj c [] [] :: vs.map Sl.val ++ List.replicate (d.nn - d.np) .emp = ρ) (h : WS pg (calls pg n) d.body ρ S (initP Q)) : W ((calls pg (n + 1)).new c vs) S Q := by
  have e : (calls pg (n + 1)).new c vs = runI pg (calls pg n) c d vs := by
    show (match pg.cls[c]? with
      | some d => match pg.fns[d.init]? with
        | some f => runI pg (calls pg n) c f vs
        | none => stuck
      | none => stuck) = _
    rw [hc]
    dsimp only
    rw [hd]
  rw [e]
  unfold W runI
  rw [if_pos hl, he]
  unfold WS at h
  cases q : exs pg (calls pg n) d.body ρ S <;> rw [q] at h <;> first | exact h | skip
  unfold initP at h
  dsimp only at h ⊢
  rename_i ρ' S'
  cases z : ρ'.head? with
  | none => rw [z] at h; exact h.elim
  | some sl => rw [z] at h; cases sl <;> exact h
/-! ### ints -/
theorem smallI_of {i : Int} (h1 : -18446744073709551616 < i) (h2 : i < 18446744073709551616) : smallI i = true := by
  unfold smallI two64
  simp only [Bool.and_eq_true, decide_eq_true_eq]
  exact ⟨h1, h2⟩
theorem inR_of {i : Int} (h1 : -4611686018427387904 ≤ i) (h2 : i < 4611686018427387904) : inR i = true := by
  unfold inR r62
  simp only [Bool.and_eq_true, decide_eq_true_eq]
  exact ⟨h1, h2⟩
theorem inR2 {i j : Int} (h1 : -4611686018427387904 ≤ i) (h2 : i < 4611686018427387904) (h3 : -4611686018427387904 ≤ j) (h4 : j < 4611686018427387904) : (inR i && inR j) = true := by
  rw [inR_of h1 h2, inR_of h3 h4]; rfl
theorem b_add {i j : Int} (q : Q (.int (i + j)) S) : OP (binP .add (.int i) (.int j)) S Q := ⟨_, rfl, q⟩
theorem b_sub {i j : Int} (q : Q (.int (i - j)) S) : OP (binP .sub (.int i) (.int j)) S Q := ⟨_, rfl, q⟩
theorem b_mulR {i j : Int} (h1 : -18446744073709551616 < j) (h2 : j < 18446744073709551616) (q : Q (.int (i * j)) S) : OP (binP .mul (.int i) (.int j)) S Q := by
  refine ⟨.int (i * j), ?_, q⟩
  show (if smallI i || smallI j then some (i * j) else none).map PV.int = _
  rw [smallI_of h1 h2, Bool.or_true, if_pos rfl]; rfl
theorem b_mulL {i j : Int} (h1 : -18446744073709551616 < i) (h2 : i < 18446744073709551616) (q : Q (.int (i * j)) S) : OP (binP .mul (.int i) (.int j)) S Q := by
  refine ⟨.int (i * j), ?_, q⟩
  show (if smallI i || smallI j then some (i * j) else none).map PV.int = _
  rw [smallI_of h1 h2, Bool.true_or, if_pos rfl]; rfl
theorem b_mod {i j : Int} (h : 0 < j) (q : Q (.int (i % j)) S) : OP (binP .mod (.int i) (.int j)) S Q := by
  refine ⟨.int (i % j), ?_, q⟩
  show (if 0 < j then some (i % j) else none).map PV.int = _
  rw [if_pos h]; rfl
theorem b_div {i j : Int} (h : 0 < j) (h2 : j < 1073741824) (q : Q (.int (i / j)) S) : OP (binP .fdiv (.int i) (.int j)) S Q := by
  refine ⟨.int (i / j), ?_, q⟩
  show (if decide (0 < j) && decide (j < 1073741824) then some (i / j) else none).map PV.int = _
  rw [decide_eq_true h, decide_eq_true h2]; rfl
theorem b_pow {i j : Int} (h : 0 ≤ j) (h2 : j ≤ 1000000) (h3 : -18446744073709551616 < i) (h4 : i < 18446744073709551616) (q : Q (.int (i ^ j.toNat)) S) : OP (binP .pow (.int i) (.int j)) S Q := by
  refine ⟨.int (i ^ j.toNat), ?_, q⟩
  show (if decide (0 ≤ j) && decide (j ≤ 1000000) && smallI i then some (i ^ j.toNat) else none).map PV.int = _
  rw [decide_eq_true h, decide_eq_true h2, smallI_of h3 h4]; rfl
theorem b_catL {xs ys : List PV} (h : xs.length + ys.length ≤ 16777216) (q : Q (.lst (xs ++ ys)) S) : OP (binP .add (.lst xs) (.lst ys)) S Q := by
  refine ⟨.lst (xs ++ ys), ?_, q⟩
  show (if xs.length + ys.length ≤ line then _ else _) = _
  exact if_pos h
theorem b_catT {xs ys : List PV} (h : xs.length + ys.length ≤ 16777216) (q : Q (.tup (xs ++ ys)) S) : OP (binP .add (.tup xs) (.tup ys)) S Q := by
  refine ⟨.tup (xs ++ ys), ?_, q⟩
  show (if xs.length + ys.length ≤ line then _ else _) = _
  exact if_pos h
theorem b_catS {x y : Str} (h : x.length + y.length ≤ 16777216) (q : Q (.str (x ++ y)) S) : OP (binP .add (.str x) (.str y)) S Q := by
  refine ⟨.str (x ++ y), ?_, q⟩
  show (if x.length + y.length ≤ line then _ else _) = _
  exact if_pos h
theorem b_rep {xs : List PV} {k : Int} (h1 : -4611686018427387904 ≤ k) (h2 : k < 4611686018427387904) (h : xs.length * k.toNat ≤ 16777216) (q : Q (.lst (List.replicate k.toNat xs).flatten) S) : OP (binP .mul (.lst xs) (.int k)) S Q := by
  refine ⟨_, ?_, q⟩
  show (if inR k && decide (xs.length * k.toNat ≤ line) then some (PV.lst (List.replicate k.toNat xs).flatten) else none) = _
  rw [inR_of h1 h2, decide_eq_true (show xs.length * k.toNat ≤ line from h)]; rfl
theorem f_lenS {x : Str} (h : x.length ≤ 16777216) (q : Q (.int x.length) S) : OP (bifP .len [.str x]) S Q := ⟨_, if_pos h, q⟩
theorem f_lenL {xs : List PV} (q : Q (.int xs.length) S) : OP (bifP .len [.lst xs]) S Q := ⟨_, rfl, q⟩
theorem f_lenT {xs : List PV} (q : Q (.int xs.length) S) : OP (bifP .len [.tup xs]) S Q := ⟨_, rfl, q⟩
end
end PW

/-! PFe: the judgements of expressions as equations, for simp -/
set_option linter.all false
set_option maxRecDepth 100000
namespace PW
open PySem PF
section
variable {α β : Type} {m m1 m2 : M α} {f : α → M β} {S S' : Sto} {Q Q' : α → Sto → Prop} {R : β → Sto → Prop} {a : α}
theorem w_bnd_eq : W (bnd m f) S R = W m S fun a S1 => W (f a) S1 R := by
  unfold W bnd
  cases m S <;> rfl
theorem w_ret_eq : W (ret a) S Q = Q a S := rfl
theorem w_opt_eq {o : Option α} : W (opt o) S Q = OP o S Q := by
  cases o with
  | none => exact propext ⟨fun h => h.elim, fun ⟨z, h, _⟩ => nomatch h⟩
  | some z => exact propext ⟨fun h => ⟨z, rfl, h⟩, fun ⟨z, h, q⟩ => by cases h; exact q⟩
theorem op_some {z : α} : OP (some z) S Q = Q z S := propext ⟨fun ⟨z, h, q⟩ => by cases h; exact q, fun h => ⟨z, rfl, h⟩⟩
theorem op_none : OP (none : Option α) S Q = False := propext ⟨(fun ⟨z, h, _⟩ => nomatch h), False.elim⟩
theorem w_ite_eq {k : Bool} : W (if k = true then m1 else m2) S Q = if k = true then W m1 S Q else W m2 S Q := by cases k <;> rfl
theorem w_fun_ite {k : Bool} : W (fun S => (if k = true then m1 else m2) S) S Q = if k = true then W m1 S Q else W m2 S Q := by cases k <;> rfl
theorem w_noExc_eq : W (noExc m) S Q = W m S Q := by
  unfold W noExc
  cases m S <;> rfl
theorem w_by (h : m S = .ok (a, S')) : W m S Q = Q a S' := by unfold W; rw [h]
theorem op_by {o : Option α} (h : o = some a) : OP o S Q = Q a S := by rw [h, op_some]
end
/-- slots -/
def RV (ρ : EV) (i : Nat) (S : Sto) (Q : PV → Sto → Prop) : Prop := W (rdV ρ i) S Q
def RB (ρ : EV) (i : Nat) (S : Sto) (Q : PV → Sto → Prop) : Prop := W (rdB ρ i) S Q
def RO (pg : Pg) (ρ : EV) (i : Nat) (f : Str) (S : Sto) (Q : PV → Sto → Prop) : Prop := OP ((rdO ρ i).bind (attP pg f)) S Q
section
variable {pg : Pg} {C : Calls} {ρ : EV} {S : Sto} {Q : PV → Sto → Prop} {s : Sl} {v : PV} {xs : List PV} {i : Nat} {f : Str} {ns : List Str} {c : Nat}
theorem rv_0 : RV (.val v :: ρ) 0 S Q = Q v S := rfl
theorem rv_s : RV (s :: ρ) (i + 1) S Q = RV ρ i S Q := by
  unfold RV rdV; rw [List.getElem?_cons_succ]
theorem rb_0 : RB (.val v :: ρ) 0 S Q = Q v S := rfl
theorem rb_0o : RB (.own xs :: ρ) 0 S Q = Q (.lst xs) S := rfl
theorem rb_s : RB (s :: ρ) (i + 1) S Q = RB ρ i S Q := by
  unfold RB rdB; rw [List.getElem?_cons_succ]
theorem ro_0 : RO pg (.val v :: ρ) 0 f S Q = OP (attP pg f v) S Q := rfl
theorem ro_0o : RO pg (.obj c ns xs :: ρ) 0 f S Q = OP (attP pg f (.ins c ns xs)) S Q := rfl
theorem ro_s : RO pg (s :: ρ) (i + 1) f S Q = RO pg ρ i f S Q := by
  unfold RO rdO; rw [List.getElem?_cons_succ]
end
/-! leaves -/
def NG (x : PV) (S : Sto) (Q : PV → Sto → Prop) : Prop := W (match x with | .int i => ret (PV.int (-i)) | _ => stuck) S Q
def BK (x : PV) (S : Sto) (Q : Bool → Sto → Prop) : Prop := W (bl! x) S Q
def LN (n : Nat) (P : Prop) : Prop := n ≤ line ∧ P
def IS (pg : Pg) (ts : List Ty) (x : PV) (S : Sto) (Q : PV → Sto → Prop) : Prop := W (bnd (opt (tyP x)) fun t => bnd (opt (isiP pg t ts)) fun b => ret (PV.bl b)) S Q
def IV (x : PV) (S : Sto) (Q : List PV → Sto → Prop) : Prop := W (match x with | .lst xs => ret xs | .tup xs => ret xs | .str x => ret (x.cps.toList.map fun c => PV.str ⟨#[c]⟩) | _ => stuck) S Q
def R1 (x : PV) (S : Sto) (Q : List PV → Sto → Prop) : Prop := W (match x with | .int j => if inR j then ret ((List.range j.toNat).map fun (i : Nat) => PV.int (i : Int)) else stuck | _ => stuck) S Q
def R2 (x y : PV) (S : Sto) (Q : List PV → Sto → Prop) : Prop := W (match x, y with | .int i, .int j => if inR i && inR j then ret ((List.range (j - i).toNat).map fun (n : Nat) => PV.int (i + n)) else stuck | _, _ => stuck) S Q
def ZP (x y : PV) (S : Sto) (Q : List PV → Sto → Prop) : Prop := W (match x, y with | .lst xs, .lst ys => ret (List.zipWith (fun x y => PV.tup [x, y]) xs ys) | _, _ => stuck) S Q
def EN (x : PV) (S : Sto) (Q : List PV → Sto → Prop) : Prop := W (match x with | .lst xs => ret (xs.zipIdx.map fun p => PV.tup [.int (p.2 : Int), p.1]) | _ => stuck) S Q
def TI (x : PV) (S : Sto) (Q : Int → Sto → Prop) : Prop := OP (toI x) S Q
section
variable {pg : Pg} {C : Calls} {ρ ρ' : EV} {S S' : Sto} {a b c e : Ex} {es kv : Exs} {Q : PV → Sto → Prop} {QB : Bool → Sto → Prop} {QL : List PV → Sto → Prop} {QO : Option Int → Sto → Prop} {QI : Int → Sto → Prop} {P : Prop} {i j : Int} {xs ys : List PV} {x y : Str}
theorem ng_int : NG (.int i) S Q = Q (.int (-i)) S := rfl
theorem bk_bl {k : Bool} : BK (.bl k) S QB = QB k S := rfl
theorem ln_ok {n : Nat} (h : n ≤ 16777216) : LN n P = P := propext ⟨fun h => h.2, fun p => ⟨h, p⟩⟩
theorem is_of {ts : List Ty} {v : PV} {t : Ty} {k : Bool} (h1 : tyP v = some t) (h2 : isiP pg t ts = some k) : IS pg ts v S Q = Q (.bl k) S := by
  unfold IS
  rw [h1, w_bnd_eq, w_opt_eq, op_some, h2, w_bnd_eq, w_opt_eq, op_some]; rfl
theorem iv_lst : IV (.lst xs) S QL = QL xs S := rfl
theorem iv_tup : IV (.tup xs) S QL = QL xs S := rfl
theorem iv_str : IV (.str x) S QL = QL (x.cps.toList.map fun c => PV.str ⟨#[c]⟩) S := rfl
theorem r1_int (h : -4611686018427387904 ≤ j ∧ j < 4611686018427387904) : R1 (.int j) S QL = QL ((List.range j.toNat).map fun (i : Nat) => PV.int (i : Int)) S := by
  unfold R1
  dsimp only
  rw [inR_of h.1 h.2]; rfl
theorem r2_int (h : (-4611686018427387904 ≤ i ∧ i < 4611686018427387904) ∧ (-4611686018427387904 ≤ j ∧ j < 4611686018427387904)) : R2 (.int i) (.int j) S QL = QL ((List.range (j - i).toNat).map fun (n : Nat) => PV.int (i + n)) S := by
  unfold R2
  dsimp only
  rw [inR_of h.1.1 h.1.2, inR_of h.2.1 h.2.2]; rfl
theorem zp_lst : ZP (.lst xs) (.lst ys) S QL = QL (List.zipWith (fun x y => PV.tup [x, y]) xs ys) S := rfl
theorem en_lst : EN (.lst xs) S QL = QL (xs.zipIdx.map fun p => PV.tup [.int (p.2 : Int), p.1]) S := rfl
theorem ti_int : TI (.int i) S QI = QI i S := op_some
/-! forms -/
theorem e_cst {v : PV} : WE pg C (.cst v) ρ S Q = Q v S := rfl
theorem e_glb {x : Str} {v : PV} : WE pg C (.glb x v) ρ S Q = Q v S := rfl
theorem e_var {i : Nat} : WE pg C (.var i) ρ S Q = RV ρ i S Q := rfl
theorem e_bor {i : Nat} : WE pg C (.bor i) ρ S Q = RB ρ i S Q := rfl
theorem e_bin {o : Bop} : WE pg C (.bin o a b) ρ S Q = WE pg C a ρ S fun x S1 => WE pg C b ρ S1 fun y S2 => OP (binP o x y) S2 Q := by
  show W (bnd (evP pg C a ρ).1 fun x => bnd (evP pg C b ρ).1 fun y => opt (binP o x y)) S Q = _
  simp only [w_bnd_eq, w_opt_eq]; rfl
theorem e_neg : WE pg C (.neg a) ρ S Q = WE pg C a ρ S fun x S1 => NG x S1 Q := by
  show W (bnd (evP pg C a ρ).1 fun x => match x with | .int i => ret (PV.int (-i)) | _ => stuck) S Q = _
  simp only [w_bnd_eq]; rfl
theorem e_not : WE pg C (.not a) ρ S Q = WE pg C a ρ S fun x S1 => OP (truP x) S1 fun k S2 => Q (.bl (!k)) S2 := by
  show W (bnd (evP pg C a ρ).1 fun x => bnd (opt (truP x)) fun b => ret (PV.bl (!b))) S Q = _
  simp only [w_bnd_eq, w_opt_eq]; rfl
theorem e_and : WE pg C (.and a b) ρ S Q = WE pg C a ρ S fun x S1 => BK x S1 fun k S2 => if k = true then WE pg C b ρ S2 Q else Q (.bl false) S2 := by
  show W (bnd (evP pg C a ρ).1 fun x => bnd (bl! x) fun k => if k then (evP pg C b ρ).1 else ret (PV.bl false)) S Q = _
  simp only [w_bnd_eq, w_ite_eq]; rfl
theorem e_or : WE pg C (.or a b) ρ S Q = WE pg C a ρ S fun x S1 => BK x S1 fun k S2 => if k = true then Q (.bl true) S2 else WE pg C b ρ S2 Q := by
  show W (bnd (evP pg C a ρ).1 fun x => bnd (bl! x) fun k => if k then ret (PV.bl true) else (evP pg C b ρ).1) S Q = _
  simp only [w_bnd_eq, w_ite_eq]; rfl
theorem e_ite : WE pg C (.ite c a b) ρ S Q = WT pg C c ρ S fun k S1 => if k = true then WE pg C a ρ S1 Q else WE pg C b ρ S1 Q := by
  show W (bnd (evP pg C c ρ).2 fun k => if k then (evP pg C a ρ).1 else (evP pg C b ρ).1) S Q = _
  simp only [w_bnd_eq, w_ite_eq]; rfl
theorem e_isn : WE pg C (.cmp .isn a b) ρ S Q = WE pg C a ρ S fun x S1 => Q (.bl (isNon x)) S1 := by
  show W (bnd (evP pg C a ρ).1 fun x => ret (PV.bl (isNon x))) S Q = _
  simp only [w_bnd_eq]; rfl
theorem e_notn : WE pg C (.cmp .notn a b) ρ S Q = WE pg C a ρ S fun x S1 => Q (.bl (!isNon x)) S1 := by
  show W (bnd (evP pg C a ρ).1 fun x => ret (PV.bl (!isNon x))) S Q = _
  simp only [w_bnd_eq]; rfl
theorem e_cmp {o : Cop} (ho : notNon o = true) : WE pg C (.cmp o a b) ρ S Q = WE pg C a ρ S fun x S1 => WE pg C b ρ S1 fun y S2 => CM pg C o x y S2 fun k S3 => Q (.bl k) S3 := by
  have e : (evP pg C (.cmp o a b) ρ).1 = bnd (evP pg C a ρ).1 fun x => bnd (evP pg C b ρ).1 fun y => bnd (cmpM pg C o x y) fun k => ret (.bl k) := by
    cases o <;> first | rfl | cases ho
  unfold WE
  rw [e]
  simp only [w_bnd_eq]; rfl
theorem e_eq : WE pg C (.cmp .eq a b) ρ S Q = WE pg C a ρ S fun x S1 => WE pg C b ρ S1 fun y S2 => CM pg C .eq x y S2 fun k S3 => Q (.bl k) S3 := e_cmp rfl
theorem e_ne : WE pg C (.cmp .ne a b) ρ S Q = WE pg C a ρ S fun x S1 => WE pg C b ρ S1 fun y S2 => CM pg C .ne x y S2 fun k S3 => Q (.bl k) S3 := e_cmp rfl
theorem e_lt : WE pg C (.cmp .lt a b) ρ S Q = WE pg C a ρ S fun x S1 => WE pg C b ρ S1 fun y S2 => CM pg C .lt x y S2 fun k S3 => Q (.bl k) S3 := e_cmp rfl
theorem e_le : WE pg C (.cmp .le a b) ρ S Q = WE pg C a ρ S fun x S1 => WE pg C b ρ S1 fun y S2 => CM pg C .le x y S2 fun k S3 => Q (.bl k) S3 := e_cmp rfl
theorem e_gt : WE pg C (.cmp .gt a b) ρ S Q = WE pg C a ρ S fun x S1 => WE pg C b ρ S1 fun y S2 => CM pg C .gt x y S2 fun k S3 => Q (.bl k) S3 := e_cmp rfl
theorem e_ge : WE pg C (.cmp .ge a b) ρ S Q = WE pg C a ρ S fun x S1 => WE pg C b ρ S1 fun y S2 => CM pg C .ge x y S2 fun k S3 => Q (.bl k) S3 := e_cmp rfl
theorem e_in : WE pg C (.cmp .in_ a b) ρ S Q = WE pg C a ρ S fun x S1 => WE pg C b ρ S1 fun y S2 => CM pg C .in_ x y S2 fun k S3 => Q (.bl k) S3 := e_cmp rfl
theorem e_nin : WE pg C (.cmp .nin a b) ρ S Q = WE pg C a ρ S fun x S1 => WE pg C b ρ S1 fun y S2 => CM pg C .nin x y S2 fun k S3 => Q (.bl k) S3 := e_cmp rfl
theorem e_chn {o r : Cop} : WE pg C (.chn o r a b c) ρ S Q = WE pg C a ρ S fun x S1 => WE pg C b ρ S1 fun y S2 => OP (cmpP o x y) S2 fun k S3 => if k = true then (WE pg C c ρ S3 fun z S4 => OP (cmpP r y z) S4 fun k S5 => Q (.bl k) S5) else Q (.bl false) S3 := by
  show W (bnd (evP pg C a ρ).1 fun x => bnd (evP pg C b ρ).1 fun y => bnd (opt (cmpP o x y)) fun k => if k then bnd (evP pg C c ρ).1 fun z => bnd (opt (cmpP r y z)) fun k => ret (PV.bl k) else ret (PV.bl false)) S Q = _
  simp only [w_bnd_eq, w_ite_eq, w_opt_eq]; rfl
theorem w_lnT : W (if xs.length ≤ line then ret (PV.tup xs) else stuck) S Q = LN xs.length (Q (.tup xs) S) := by
  unfold LN
  by_cases h : xs.length ≤ line
  · rw [if_pos h]; exact propext ⟨fun q => ⟨h, q⟩, fun q => q.2⟩
  · rw [if_neg h]; exact propext ⟨fun q => q.elim, fun q => (h q.1).elim⟩
theorem w_lnL : W (if xs.length ≤ line then ret (PV.lst xs) else stuck) S Q = LN xs.length (Q (.lst xs) S) := by
  unfold LN
  by_cases h : xs.length ≤ line
  · rw [if_pos h]; exact propext ⟨fun q => ⟨h, q⟩, fun q => q.2⟩
  · rw [if_neg h]; exact propext ⟨fun q => q.elim, fun q => (h q.1).elim⟩
theorem e_tup : WE pg C (.tup es) ρ S Q = WA pg C es ρ S fun xs S1 => LN xs.length (Q (.tup xs) S1) := by
  show W (bnd (evs pg C es ρ) fun xs => if xs.length ≤ line then ret (PV.tup xs) else stuck) S Q = _
  simp only [w_bnd_eq, w_lnT]; rfl
theorem e_lst : WE pg C (.lst es) ρ S Q = WA pg C es ρ S fun xs S1 => LN xs.length (Q (.lst xs) S1) := by
  show W (bnd (evs pg C es ρ) fun xs => if xs.length ≤ line then ret (PV.lst xs) else stuck) S Q = _
  simp only [w_bnd_eq, w_lnL]; rfl
theorem e_idx : WE pg C (.idx a b) ρ S Q = WE pg C a ρ S fun x S1 => WE pg C b ρ S1 fun y S2 => DR x S2 fun x S3 => OP (idxP x y) S3 Q := by
  show W (bnd (evP pg C a ρ).1 fun x => bnd (evP pg C b ρ).1 fun y => bnd (der x) fun x => opt (idxP x y)) S Q = _
  simp only [w_bnd_eq, w_opt_eq]; rfl
theorem d_lst : DR (.lst xs) S Q = Q (.lst xs) S := rfl
theorem d_tup : DR (.tup xs) S Q = Q (.tup xs) S := rfl
theorem d_str : DR (.str x) S Q = Q (.str x) S := rfl
theorem d_loc {k : Nat} : DR (.loc k) S Q = OP (S[k]?) S fun xs S1 => Q (.lst xs) S1 := by
  unfold DR der W
  dsimp only
  cases h : S[k]? with
  | none => exact propext ⟨fun h => h.elim, fun ⟨z, h, _⟩ => nomatch h⟩
  | some z => exact (op_some (Q := fun xs S1 => Q (.lst xs) S1)).symm
theorem e_slc {lo hi : Exo} : WE pg C (.slc a lo hi) ρ S Q = WE pg C a ρ S fun x S1 => WO pg C lo ρ S1 fun l S2 => WO pg C hi ρ S2 fun h S3 => OP (slcP x l h) S3 Q := by
  show W (bnd (evP pg C a ρ).1 fun x => bnd (evo pg C lo ρ) fun l => bnd (evo pg C hi ρ) fun h => opt (slcP x l h)) S Q = _
  simp only [w_bnd_eq, w_opt_eq]; rfl
theorem o_none : WO pg C .none ρ S QO = QO none S := rfl
theorem o_some : WO pg C (.some e) ρ S QO = WE pg C e ρ S fun x S1 => TI x S1 fun i S2 => QO (some i) S2 := by
  show W (bnd (evP pg C e ρ).1 fun x => bnd (opt (toI x)) fun i => ret (some i)) S QO = _
  simp only [w_bnd_eq, w_opt_eq]; rfl
theorem e_att {f : Str} : WE pg C (.att a f) ρ S Q = WE pg C a ρ S fun x S1 => OP (attP pg f x) S1 Q := by
  show W (bnd (evP pg C a ρ).1 fun x => opt (attP pg f x)) S Q = _
  simp only [w_bnd_eq, w_opt_eq]; rfl
theorem e_atO {i : Nat} {f : Str} : WE pg C (.atO i f) ρ S Q = RO pg ρ i f S Q := w_opt_eq
theorem e_bif {k : Bif} : WE pg C (.bif k es) ρ S Q = WA pg C es ρ S fun xs S1 => OP (bifP k xs) S1 Q := by
  show W (bnd (evs pg C es ρ) fun xs => opt (bifP k xs)) S Q = _
  simp only [w_bnd_eq, w_opt_eq]; rfl
theorem e_isi {ts : List Ty} : WE pg C (.isi a ts) ρ S Q = WE pg C a ρ S fun x S1 => IS pg ts x S1 Q := by
  show W (bnd (evP pg C a ρ).1 fun x => bnd (opt (tyP x)) fun t => bnd (opt (isiP pg t ts)) fun b => ret (PV.bl b)) S Q = _
  rw [w_bnd_eq]; rfl
theorem e_call {f : Nat} {sel : List Sel} : WE pg C (.call f es kv sel) ρ S Q = WA pg C es ρ S fun xs S1 => WA pg C kv ρ S1 fun ys S2 => OP (selP sel xs ys) S2 fun zs S3 => W (C.fn f zs) S3 Q := by
  show W (bnd (evs pg C es ρ) fun xs => bnd (evs pg C kv ρ) fun ys => bnd (opt (selP sel xs ys)) fun zs => C.fn f zs) S Q = _
  simp only [w_bnd_eq, w_opt_eq]; rfl
theorem e_make {f : Nat} {sel : List Sel} : WE pg C (.make f es kv sel) ρ S Q = WA pg C es ρ S fun xs S1 => WA pg C kv ρ S1 fun ys S2 => OP (selP sel xs ys) S2 fun zs S3 => W (C.new f zs) S3 Q := by
  show W (bnd (evs pg C es ρ) fun xs => bnd (evs pg C kv ρ) fun ys => bnd (opt (selP sel xs ys)) fun zs => C.new f zs) S Q = _
  simp only [w_bnd_eq, w_opt_eq]; rfl
theorem e_meth {m : Str} {sel : List Sel} : WE pg C (.meth a m es kv sel) ρ S Q = WE pg C a ρ S fun x S0 => OP (methP pg m x) S0 fun f S1 => WA pg C es ρ S1 fun xs S2 => WA pg C kv ρ S2 fun ys S3 => OP (selP sel xs ys) S3 fun zs S4 => W (C.fn f (x :: zs)) S4 Q := by
  show W (bnd (evP pg C a ρ).1 fun x => bnd (opt (methP pg m x)) fun f => bnd (evs pg C es ρ) fun xs => bnd (evs pg C kv ρ) fun ys => bnd (opt (selP sel xs ys)) fun zs => C.fn f (x :: zs)) S Q = _
  simp only [w_bnd_eq, w_opt_eq]; rfl
theorem a_nil : WA pg C .nil ρ S QL = QL [] S := rfl
theorem a_cons : WA pg C (.cons e es) ρ S QL = WE pg C e ρ S fun x S1 => WA pg C es ρ S1 fun xs S2 => QL (x :: xs) S2 := by
  show W (bnd (evP pg C e ρ).1 fun x => bnd (evs pg C es ρ) fun xs => ret (x :: xs)) S QL = _
  simp only [w_bnd_eq]; rfl
theorem t_not : WT pg C (.not a) ρ S QB = WT pg C a ρ S fun k S1 => QB (!k) S1 := by
  show W (bnd (evP pg C a ρ).2 fun k => ret (!k)) S QB = _
  simp only [w_bnd_eq]; rfl
theorem t_and : WT pg C (.and a b) ρ S QB = WT pg C a ρ S fun k S1 => if k = true then WT pg C b ρ S1 QB else QB false S1 := by
  show W (bnd (evP pg C a ρ).2 fun k => if k then (evP pg C b ρ).2 else ret false) S QB = _
  simp only [w_bnd_eq, w_ite_eq]; rfl
theorem t_or : WT pg C (.or a b) ρ S QB = WT pg C a ρ S fun k S1 => if k = true then QB true S1 else WT pg C b ρ S1 QB := by
  show W (bnd (evP pg C a ρ).2 fun k => if k then ret true else (evP pg C b ρ).2) S QB = _
  simp only [w_bnd_eq, w_ite_eq]; rfl
theorem t_val (hp : plainX e = true) : WT pg C e ρ S QB = WE pg C e ρ S fun x S1 => OP (truP x) S1 QB := by
  have q : (evP pg C e ρ).2 = bnd (evP pg C e ρ).1 fun x => opt (truP x) := by
    cases e <;> first | rfl | cases hp
  unfold WT
  rw [q]
  simp only [w_bnd_eq, w_opt_eq]; rfl
theorem tr_bl {k : Bool} : OP (truP (.bl k)) S QB = QB k S := op_some
theorem tr_int : OP (truP (.int i)) S QB = QB (i != 0) S := op_some
theorem tr_non : OP (truP .non) S QB = QB false S := op_some
theorem tr_lst : OP (truP (.lst xs)) S QB = QB (!xs.isEmpty) S := op_some
theorem tr_tup : OP (truP (.tup xs)) S QB = QB (!xs.isEmpty) S := op_some
theorem t_cmp {o : Cop} : WT pg C (.cmp o a b) ρ S QB = WE pg C (.cmp o a b) ρ S fun x S1 => OP (truP x) S1 QB := t_val rfl
theorem t_chn {o r : Cop} : WT pg C (.chn o r a b c) ρ S QB = WE pg C (.chn o r a b c) ρ S fun x S1 => OP (truP x) S1 QB := t_val rfl
theorem t_var {i : Nat} : WT pg C (.var i) ρ S QB = WE pg C (.var i) ρ S fun x S1 => OP (truP x) S1 QB := t_val rfl
theorem t_bor {i : Nat} : WT pg C (.bor i) ρ S QB = WE pg C (.bor i) ρ S fun x S1 => OP (truP x) S1 QB := t_val rfl
theorem t_call {f : Nat} {sel : List Sel} : WT pg C (.call f es kv sel) ρ S QB = WE pg C (.call f es kv sel) ρ S fun x S1 => OP (truP x) S1 QB := t_val rfl
theorem t_meth {m : Str} {sel : List Sel} : WT pg C (.meth a m es kv sel) ρ S QB = WE pg C (.meth a m es kv sel) ρ S fun x S1 => OP (truP x) S1 QB := t_val rfl
theorem t_bif {k : Bif} : WT pg C (.bif k es) ρ S QB = WE pg C (.bif k es) ρ S fun x S1 => OP (truP x) S1 QB := t_val rfl
theorem t_isi {ts : List Ty} : WT pg C (.isi a ts) ρ S QB = WE pg C (.isi a ts) ρ S fun x S1 => OP (truP x) S1 QB := t_val rfl
theorem t_idx : WT pg C (.idx a b) ρ S QB = WE pg C (.idx a b) ρ S fun x S1 => OP (truP x) S1 QB := t_val rfl
theorem t_att {f : Str} : WT pg C (.att a f) ρ S QB = WE pg C (.att a f) ρ S fun x S1 => OP (truP x) S1 QB := t_val rfl
theorem t_atO {i : Nat} {f : Str} : WT pg C (.atO i f) ρ S QB = WE pg C (.atO i f) ρ S fun x S1 => OP (truP x) S1 QB := t_val rfl
theorem t_lc {tg : Tgt} {it : Itx} {cs : Exo} {vs : List Nat} : WT pg C (.lc e tg it cs vs) ρ S QB = WE pg C (.lc e tg it cs vs) ρ S fun x S1 => OP (truP x) S1 QB := t_val rfl
theorem t_cst {v : PV} : WT pg C (.cst v) ρ S QB = OP (truP v) S QB := t_val rfl
theorem i_val : WI pg C (.val e) ρ S QL = WE pg C e ρ S fun x S1 => IV x S1 QL := by
  show W (bnd (evP pg C e ρ).1 fun x => match x with | .lst xs => ret xs | .tup xs => ret xs | .str x => ret (x.cps.toList.map fun c => PV.str ⟨#[c]⟩) | _ => stuck) S QL = _
  rw [w_bnd_eq]; rfl
theorem i_rng1 : WI pg C (.rng1 e) ρ S QL = WE pg C e ρ S fun x S1 => R1 x S1 QL := by
  show W (bnd (evP pg C e ρ).1 fun x => match x with | .int j => if inR j then ret ((List.range j.toNat).map fun (i : Nat) => PV.int (i : Int)) else stuck | _ => stuck) S QL = _
  rw [w_bnd_eq]; rfl
theorem i_rng2 : WI pg C (.rng2 a b) ρ S QL = WE pg C a ρ S fun x S1 => WE pg C b ρ S1 fun y S2 => R2 x y S2 QL := by
  show W (bnd (evP pg C a ρ).1 fun x => bnd (evP pg C b ρ).1 fun y => match x, y with | .int i, .int j => if inR i && inR j then ret ((List.range (j - i).toNat).map fun (n : Nat) => PV.int (i + n)) else stuck | _, _ => stuck) S QL = _
  simp only [w_bnd_eq]; rfl
theorem i_zip : WI pg C (.zip a b) ρ S QL = WE pg C a ρ S fun x S1 => WE pg C b ρ S1 fun y S2 => ZP x y S2 QL := by
  show W (bnd (evP pg C a ρ).1 fun x => bnd (evP pg C b ρ).1 fun y => match x, y with | .lst xs, .lst ys => ret (List.zipWith (fun x y => PV.tup [x, y]) xs ys) | _, _ => stuck) S QL = _
  simp only [w_bnd_eq]; rfl
theorem i_enum : WI pg C (.enum a) ρ S QL = WE pg C a ρ S fun x S1 => EN x S1 QL := by
  show W (bnd (evP pg C a ρ).1 fun x => match x with | .lst xs => ret (xs.zipIdx.map fun p => PV.tup [.int (p.2 : Int), p.1]) | _ => stuck) S QL = _
  rw [w_bnd_eq]; rfl
theorem e_lc {tg : Tgt} {it : Itx} {cs : Exo} {vs : List Nat} : WE pg C (.lc e tg it cs vs) ρ S Q = WI pg C it ρ S fun xs S1 => LN xs.length (W (lcL (lcF pg C e tg cs vs ρ) xs) S1 fun ys S2 => Q (.lst ys) S2) := by
  have q : ∀ (xs : List PV) (S : Sto), W (if xs.length ≤ line then bnd (lcL (lcF pg C e tg cs vs ρ) xs) fun ys => ret (PV.lst ys) else stuck) S Q = LN xs.length (W (lcL (lcF pg C e tg cs vs ρ) xs) S fun ys S2 => Q (.lst ys) S2) := fun xs S => by
    unfold LN
    by_cases h : xs.length ≤ line
    · rw [if_pos h, w_bnd_eq]; exact propext ⟨fun q => ⟨h, q⟩, fun q => q.2⟩
    · rw [if_neg h]; exact propext ⟨fun q => q.elim, fun q => (h q.1).elim⟩
  show W (bnd (evI pg C it ρ) fun xs => if xs.length ≤ line then bnd (lcL (lcF pg C e tg cs vs ρ) xs) fun ys => ret (PV.lst ys) else stuck) S Q = _
  simp only [w_bnd_eq, q]; rfl
/-! operations -/
theorem p_add : OP (binP .add (.int i) (.int j)) S Q = Q (.int (i + j)) S := op_some
theorem p_sub : OP (binP .sub (.int i) (.int j)) S Q = Q (.int (i - j)) S := op_some
theorem p_mulR (h : -18446744073709551616 < j ∧ j < 18446744073709551616) : OP (binP .mul (.int i) (.int j)) S Q = Q (.int (i * j)) S := by
  refine op_by ?_
  show (if smallI i || smallI j then some (i * j) else none).map PV.int = _
  rw [smallI_of h.1 h.2, Bool.or_true, if_pos rfl]; rfl
theorem p_mulL (h : -18446744073709551616 < i ∧ i < 18446744073709551616) : OP (binP .mul (.int i) (.int j)) S Q = Q (.int (i * j)) S := by
  refine op_by ?_
  show (if smallI i || smallI j then some (i * j) else none).map PV.int = _
  rw [smallI_of h.1 h.2, Bool.true_or, if_pos rfl]; rfl
theorem p_mod (h : 0 < j) : OP (binP .mod (.int i) (.int j)) S Q = Q (.int (i % j)) S := by
  refine op_by ?_
  show (if 0 < j then some (i % j) else none).map PV.int = _
  rw [if_pos h]; rfl
theorem p_div (h : 0 < j ∧ j < 1073741824) : OP (binP .fdiv (.int i) (.int j)) S Q = Q (.int (i / j)) S := by
  refine op_by ?_
  show (if decide (0 < j) && decide (j < 1073741824) then some (i / j) else none).map PV.int = _
  rw [decide_eq_true h.1, decide_eq_true h.2]; rfl
theorem p_pow (h : (0 ≤ j ∧ j ≤ 1000000) ∧ -18446744073709551616 < i ∧ i < 18446744073709551616) : OP (binP .pow (.int i) (.int j)) S Q = Q (.int (i ^ j.toNat)) S := by
  refine op_by ?_
  show (if decide (0 ≤ j) && decide (j ≤ 1000000) && smallI i then some (i ^ j.toNat) else none).map PV.int = _
  rw [decide_eq_true h.1.1, decide_eq_true h.1.2, smallI_of h.2.1 h.2.2]; rfl
theorem p_catL (h : xs.length + ys.length ≤ 16777216) : OP (binP .add (.lst xs) (.lst ys)) S Q = Q (.lst (xs ++ ys)) S := op_by (show (if xs.length + ys.length ≤ line then _ else _) = _ from if_pos h)
theorem p_catT (h : xs.length + ys.length ≤ 16777216) : OP (binP .add (.tup xs) (.tup ys)) S Q = Q (.tup (xs ++ ys)) S := op_by (show (if xs.length + ys.length ≤ line then _ else _) = _ from if_pos h)
theorem p_catS (h : x.length + y.length ≤ 16777216) : OP (binP .add (.str x) (.str y)) S Q = Q (.str (x ++ y)) S := op_by (show (if x.length + y.length ≤ line then _ else _) = _ from if_pos h)
theorem p_rep (h : (-4611686018427387904 ≤ i ∧ i < 4611686018427387904) ∧ xs.length * i.toNat ≤ 16777216) : OP (binP .mul (.lst xs) (.int i)) S Q = Q (.lst (List.replicate i.toNat xs).flatten) S := by
  refine op_by ?_
  show (if inR i && decide (xs.length * i.toNat ≤ line) then some (PV.lst (List.replicate i.toNat xs).flatten) else none) = _
  rw [inR_of h.1.1 h.1.2, decide_eq_true (show xs.length * i.toNat ≤ line from h.2)]; rfl
theorem c_lt : CM pg C .lt (.int i) (.int j) S QB = QB (decide (i < j)) S := rfl
theorem c_gt : CM pg C .gt (.int i) (.int j) S QB = QB (decide (j < i)) S := rfl
theorem c_le : CM pg C .le (.int i) (.int j) S QB = QB (decide (i ≤ j)) S := rfl
theorem c_ge : CM pg C .ge (.int i) (.int j) S QB = QB (decide (j ≤ i)) S := rfl
theorem c_ltS : CM pg C .lt (.str x) (.str y) S QB = QB (strLt x y) S := rfl
theorem c_eqI : CM pg C .eq (.int i) (.int j) S QB = QB (i == j) S := rfl
theorem c_neI : CM pg C .ne (.int i) (.int j) S QB = QB (!(i == j)) S := rfl
theorem c_eq {u v : PV} (h : okN 64 u = true ∧ okN 64 v = true) : CM pg C .eq u v S QB = QB (eqP u v) S := by
  unfold CM
  rw [cmpM_p (okN_noIns h.1)]
  rw [w_opt_eq]
  exact op_by (show (if (isS u && isS v) || (okN 64 u && okN 64 v) then some (eqP u v) else none) = _ by rw [h.1, h.2, Bool.and_true, Bool.or_true]; rfl)
theorem c_ne {u v : PV} (h : okN 64 u = true ∧ okN 64 v = true) : CM pg C .ne u v S QB = QB (!eqP u v) S := by
  unfold CM
  rw [cmpM_p (okN_noIns h.1)]
  rw [w_opt_eq]
  exact op_by (show (if (isS u && isS v) || (okN 64 u && okN 64 v) then some (!eqP u v) else none) = _ by rw [h.1, h.2, Bool.and_true, Bool.or_true]; rfl)
theorem c_eqS : CM pg C .eq (.str x) (.str y) S QB = QB (x == y) S := by
  unfold CM
  rw [cmpM_p rfl, w_opt_eq]
  exact op_by (show some (eqP (.str x) (.str y)) = _ by simp only [eqP])
theorem c_neS : CM pg C .ne (.str x) (.str y) S QB = QB (!(x == y)) S := by
  unfold CM
  rw [cmpM_p rfl, w_opt_eq]
  exact op_by (show some (!eqP (.str x) (.str y)) = _ by simp only [eqP])
theorem c_chI : OP (cmpP .le (.int i) (.int j)) S QB = QB (decide (i ≤ j)) S := op_some
theorem c_chL : OP (cmpP .lt (.int i) (.int j)) S QB = QB (decide (i < j)) S := op_some
theorem c_chS : OP (cmpP .le (.str x) (.str y)) S QB = QB (!strLt y x) S := op_some
theorem f_lL : OP (bifP .len [.lst xs]) S Q = Q (.int xs.length) S := op_some
theorem f_lT : OP (bifP .len [.tup xs]) S Q = Q (.int xs.length) S := op_some
theorem f_lS (h : x.length ≤ 16777216) : OP (bifP .len [.str x]) S Q = Q (.int x.length) S := op_by (if_pos h)
theorem f_int : OP (bifP .int [.int i]) S Q = Q (.int i) S := op_some
theorem f_intB {k : Bool} : OP (bifP .int [.bl k]) S Q = Q (.int (if k then 1 else 0)) S := op_some
theorem f_abs : OP (bifP .abs [.int i]) S Q = Q (.int (if i < 0 then -i else i)) S := op_some
theorem f_tupL : OP (bifP .tuple [.lst xs]) S Q = Q (.tup xs) S := op_some
theorem f_tupT : OP (bifP .tuple [.tup xs]) S Q = Q (.tup xs) S := op_some
theorem f_lstL : OP (bifP .list [.lst xs]) S Q = Q (.lst xs) S := op_some
theorem f_lstT : OP (bifP .list [.tup xs]) S Q = Q (.lst xs) S := op_some
theorem f_max : OP (bifP .max [.int i, .int j]) S Q = Q (.int (if j > i then j else i)) S := op_some
theorem f_min : OP (bifP .min [.int i, .int j]) S Q = Q (.int (if j < i then j else i)) S := op_some
theorem f_slcL {lo hi : Option Int} : OP (slcP (.lst xs) lo hi) S Q = Q (.lst (cutP xs lo hi)) S := op_some
theorem f_slcT {lo hi : Option Int} : OP (slcP (.tup xs) lo hi) S Q = Q (.tup (cutP xs lo hi)) S := op_some
theorem s_nil {R : List PV → Sto → Prop} : OP (selP [] xs ys) S R = R [] S := op_some
theorem s_one {o : Sel} {ss : List Sel} {R : List PV → Sto → Prop} : OP (selP (o :: ss) xs ys) S R = OP (sel1 o xs ys) S fun v S => OP (selP ss xs ys) S fun vs S => R (v :: vs) S := by
  show OP (match sel1 o xs ys, selP ss xs ys with
    | some v, some vs => some (v :: vs)
    | _, _ => none) S R = _
  cases sel1 o xs ys with
  | none => rw [op_none, op_none]
  | some v =>
    rw [op_some]
    cases selP ss xs ys with
    | none => rw [op_none, op_none]
    | some vs => rw [op_some, op_some]
theorem s_p {k : Nat} {ss : List Sel} {R : List PV → Sto → Prop} : OP (selP (.p k :: ss) xs ys) S R = OP (xs[k]?) S fun v S => OP (selP ss xs ys) S fun vs S => R (v :: vs) S := s_one
theorem s_k {k : Nat} {ss : List Sel} {R : List PV → Sto → Prop} : OP (selP (.k k :: ss) xs ys) S R = OP (ys[k]?) S fun v S => OP (selP ss xs ys) S fun vs S => R (v :: vs) S := s_one
theorem s_d {k : Nat} {v : PV} {ss : List Sel} {R : List PV → Sto → Prop} : OP (selP (.d k v :: ss) xs ys) S R = OP (selP ss xs ys) S fun vs S => R (v :: vs) S := by
  rw [s_one]
  exact op_some
theorem g_0 {α : Type} {x : α} {l : List α} {R : α → Sto → Prop} : OP ((x :: l)[0]?) S R = R x S := op_some
theorem g_s {α : Type} {x : α} {l : List α} {n : Nat} {R : α → Sto → Prop} : OP ((x :: l)[n + 1]?) S R = OP (l[n]?) S R := by rw [List.getElem?_cons_succ]
theorem op_bind {α β : Type} {o : Option α} {f : α → Option β} {R : β → Sto → Prop} : OP (o.bind f) S R = OP o S fun a S => OP (f a) S R := by
  cases o with
  | none => rw [op_none]; exact op_none
  | some a => rw [op_some]; rfl
end
end PW

/-! PFt: typed values, indices, slices, the pen -/
set_option linter.all false
set_option maxRecDepth 100000
namespace PW
open PySem PF
section
variable {pg : Pg} {C : Calls} {S : Sto} {Q : PV → Sto → Prop} {QB : Bool → Sto → Prop} {i : Int} {xs ys : List PV}
theorem atI_pos {α : Type} {xs : List α} (d : α) (h : 0 ≤ i ∧ i < xs.length) : L2.atI xs i = some (xs.getD i.toNat d) := by
  unfold L2.atI L2.ixN
  rw [if_pos h.1, if_pos h.2, Option.bind_some, List.getD_eq_getElem?_getD, List.getElem?_eq_getElem (by omega)]
  rfl
theorem atI_neg {α : Type} {xs : List α} (d : α) (h : i < 0 ∧ -(xs.length : Int) ≤ i) : L2.atI xs i = some (xs.getD (i + xs.length).toNat d) := by
  unfold L2.atI L2.ixN
  rw [if_neg (by omega), if_pos h.2, Option.bind_some, List.getD_eq_getElem?_getD, List.getElem?_eq_getElem (by omega)]
  rfl
theorem x_idxL (h : 0 ≤ i ∧ i < xs.length) : OP (idxP (.lst xs) (.int i)) S Q = Q (xs.getD i.toNat .non) S := op_by (show idxP _ _ = _ by unfold idxP; exact atI_pos .non h)
theorem x_idxT (h : 0 ≤ i ∧ i < xs.length) : OP (idxP (.tup xs) (.int i)) S Q = Q (xs.getD i.toNat .non) S := op_by (show idxP _ _ = _ by unfold idxP; exact atI_pos .non h)
theorem x_idxLn (h : i < 0 ∧ -(xs.length : Int) ≤ i) : OP (idxP (.lst xs) (.int i)) S Q = Q (xs.getD (i + xs.length).toNat .non) S := op_by (show idxP _ _ = _ by unfold idxP; exact atI_neg .non h)
theorem x_idxTn (h : i < 0 ∧ -(xs.length : Int) ≤ i) : OP (idxP (.tup xs) (.int i)) S Q = Q (xs.getD (i + xs.length).toNat .non) S := op_by (show idxP _ _ = _ by unfold idxP; exact atI_neg .non h)
theorem x_idxLm (h : 0 < xs.length) : OP (idxP (.lst xs) (.int (i % (xs.length : Int)))) S Q = Q (xs.getD (i % (xs.length : Int)).toNat .non) S :=
  x_idxL ⟨Int.emod_nonneg _ (by omega), Int.emod_lt_of_pos _ (by omega)⟩
theorem x_idxTm (h : 0 < xs.length) : OP (idxP (.tup xs) (.int (i % (xs.length : Int)))) S Q = Q (xs.getD (i % (xs.length : Int)).toNat .non) S :=
  x_idxT ⟨Int.emod_nonneg _ (by omega), Int.emod_lt_of_pos _ (by omega)⟩
/-! ends of rows -/
theorem th_nxt {N : EV → Sto → Prop} {P : Res → Prop} {ρ : EV} (h : N ρ S) : thP N P (.nxt ρ S) := h
theorem th_ret {N : EV → Sto → Prop} {P : Res → Prop} {v : PV} (h : P (.ret v S)) : thP N P (.ret v S) := h
theorem lo_nxt {N : EV → Sto → Prop} {P : Res → Prop} {ρ : EV} (h : N ρ S) : loP N P (.nxt ρ S) := h
theorem lo_cnt {N : EV → Sto → Prop} {P : Res → Prop} {ρ : EV} (h : N ρ S) : loP N P (.cnt ρ S) := h
theorem lo_brk {N : EV → Sto → Prop} {P : Res → Prop} {ρ : EV} (h : P (.nxt ρ S)) : loP N P (.brk ρ S) := h
theorem lo_ret {N : EV → Sto → Prop} {P : Res → Prop} {v : PV} (h : P (.ret v S)) : loP N P (.ret v S) := h
theorem th_brk {N : EV → Sto → Prop} {P : Res → Prop} {ρ : EV} (h : P (.brk ρ S)) : thP N P (.brk ρ S) := h
theorem th_cnt {N : EV → Sto → Prop} {P : Res → Prop} {ρ : EV} (h : P (.cnt ρ S)) : thP N P (.cnt ρ S) := h
theorem ws_nilI {c : Nat} {ns : List Str} {ρ : EV} (h : Q (.ins c ns xs) S) : WS pg C .nil (.obj c ns xs :: ρ) S (initP Q) := h
/-! two ways -/
theorem br_d {p : Prop} [Decidable p] {A B : Prop} (a : p → A) (b : ¬p → B) : BR (decide p) A B := ⟨fun h => a (of_decide_eq_true h), fun h => b (of_decide_eq_false h)⟩
theorem br_n {k : Bool} {A B : Prop} (h : BR k B A) : BR (!k) A B := by
  cases k with
  | false => exact br_tt (h.2 rfl)
  | true => exact br_ff (h.1 rfl)
theorem br_q {i j : Int} {A B : Prop} (a : i = j → A) (b : ¬i = j → B) : BR (i == j) A B := ⟨fun h => a (eq_of_beq h), fun h => b fun q => by rw [q, beq_self_eq_true] at h; cases h⟩
theorem br_nz {i : Int} {A B : Prop} (a : ¬i = 0 → A) (b : i = 0 → B) : BR (i != 0) A B := br_n (br_q b a)
theorem br_e {xs : List PV} {A B : Prop} (a : xs = [] → A) (b : ¬xs = [] → B) : BR xs.isEmpty A B := ⟨fun h => a (List.isEmpty_iff.mp h), fun h => b fun q => by rw [q] at h; cases h⟩
theorem br_k {k : Bool} {A B : Prop} (a : k = true → A) (b : k = false → B) : BR k A B := ⟨a, b⟩
theorem getD_map {α : Type} {f : α → PV} {l : List α} {n : Nat} (d : α) (h : n < l.length) : (l.map f).getD n .non = f (l.getD n d) := by
  rw [List.getD_eq_getElem?_getD, List.getD_eq_getElem?_getD, List.getElem?_map, List.getElem?_eq_getElem h]; rfl
/-! slices -/
theorem cut_nn {α : Type} {xs : List α} : cutP xs none none = xs := by
  unfold cutP
  show (xs.drop 0).take (xs.length - 0) = xs
  simp
theorem cut_sn {α : Type} {xs : List α} (h : 0 ≤ i) : cutP xs (some i) none = xs.drop i.toNat := by
  unfold cutP
  have e : HT.sIx xs.length 0 (some i) = min i.toNat xs.length := by
    show (if i < 0 then _ else _) = _
    rw [if_neg (by omega)]
  show (xs.drop (HT.sIx xs.length 0 (some i))).take (xs.length - HT.sIx xs.length 0 (some i)) = _
  rw [e]
  rcases Nat.le_total i.toNat xs.length with q | q
  · rw [Nat.min_eq_left q, List.take_of_length_le (by simp)]
  · rw [Nat.min_eq_right q, List.drop_length, List.drop_of_length_le q]; simp
theorem cut_ns {α : Type} {xs : List α} (h : 0 ≤ i) : cutP xs none (some i) = xs.take i.toNat := by
  unfold cutP
  have e : HT.sIx xs.length xs.length (some i) = min i.toNat xs.length := by
    show (if i < 0 then _ else _) = _
    rw [if_neg (by omega)]
  show (xs.drop 0).take (HT.sIx xs.length xs.length (some i) - 0) = _
  rw [e, List.drop_zero, Nat.sub_zero]
  rcases Nat.le_total i.toNat xs.length with q | q
  · rw [Nat.min_eq_left q]
  · rw [Nat.min_eq_right q, List.take_of_length_le (Nat.le_refl _), List.take_of_length_le q]
/-- xs[-k:] -/
theorem cut_snN {α : Type} {xs : List α} (h : i < 0) : cutP xs (some i) none = xs.drop (i + xs.length).toNat := by
  unfold cutP
  have e : HT.sIx xs.length 0 (some i) = (i + xs.length).toNat := by
    show (if i < 0 then _ else _) = _
    rw [if_pos h]
  show (xs.drop (HT.sIx xs.length 0 (some i))).take (xs.length - HT.sIx xs.length 0 (some i)) = _
  rw [e, List.take_of_length_le (by simp)]
/-- xs[:-k] -/
theorem cut_nsN {α : Type} {xs : List α} (h : i < 0) : cutP xs none (some i) = xs.take (i + xs.length).toNat := by
  unfold cutP
  have e : HT.sIx xs.length xs.length (some i) = (i + xs.length).toNat := by
    show (if i < 0 then _ else _) = _
    rw [if_pos h]
  show (xs.drop 0).take (HT.sIx xs.length xs.length (some i) - 0) = _
  rw [e]
  simp
theorem cut_map {α : Type} {f : α → PV} {l : List α} {lo hi : Option Int} : cutP (l.map f) lo hi = (cutP l lo hi).map f := by
  unfold cutP
  rw [List.length_map, List.map_take, List.map_drop]
/-! plain data -/
theorem okNs_all : ∀ {n : Nat} {xs : List PV}, (∀ x ∈ xs, okN n x = true) → okNs n xs = true
  | _, [], _ => by simp [okNs]
  | n, x :: xs, h => by
    simp only [okNs, Bool.and_eq_true]
    exact ⟨h x (List.mem_cons_self ..), okNs_all fun y hy => h y (List.mem_cons_of_mem _ hy)⟩
theorem okNs_map {α : Type} {f : α → PV} {n : Nat} {l : List α} (h : ∀ a ∈ l, okN n (f a) = true) : okNs n (l.map f) = true := okNs_all fun x hx => by
  obtain ⟨a, h1, rfl⟩ := List.mem_map.mp hx
  exact h a h1
theorem okL {n : Nat} {xs : List PV} (h : okNs n xs = true) : okN (n + 1) (.lst xs) = true := by simpa only [okN] using h
theorem okT {n : Nat} {xs : List PV} (h : okNs n xs = true) : okN (n + 1) (.tup xs) = true := by simpa only [okN] using h
theorem eqPs_map {α : Type} [DecidableEq α] {f : α → PV} (hf : ∀ a b, eqP (f a) (f b) = decide (a = b)) : ∀ l m : List α, eqPs (l.map f) (m.map f) = decide (l = m)
  | [], [] => by simp [eqPs]
  | [], _ :: _ => by simp [eqPs]
  | _ :: _, [] => by simp [eqPs]
  | a :: l, b :: m => by
    simp only [List.map_cons, eqPs]
    rw [hf, eqPs_map hf l m]
    by_cases h1 : a = b <;> by_cases h2 : l = m <;> simp [h1, h2]
theorem eqP_L {xs ys : List PV} : eqP (.lst xs) (.lst ys) = eqPs xs ys := by simp only [eqP]
theorem eqP_T {xs ys : List PV} : eqP (.tup xs) (.tup ys) = eqPs xs ys := by simp only [eqP]
theorem eqP_str {x y : Str} : eqP (.str x) (.str y) = decide (x = y) := by
  simp only [eqP]
  by_cases h : x = y
  · simp [h]
  · simp [h]
theorem eqPs_nilR {xs : List PV} : eqPs xs [] = xs.isEmpty := by cases xs <;> simp [eqPs]
theorem eqPs_nilL {xs : List PV} : eqPs [] xs = xs.isEmpty := by cases xs <;> simp [eqPs]
/-- against an empty list -/
theorem c_neE (h : okNs 63 xs = true) : CM pg C .ne (.lst xs) (.lst []) S QB = QB (!xs.isEmpty) S := by
  rw [c_ne ⟨okL h, okL (by simp [okNs])⟩, eqP_L, eqPs_nilR]
theorem c_eqE (h : okNs 63 xs = true) : CM pg C .eq (.lst xs) (.lst []) S QB = QB xs.isEmpty S := by
  rw [c_eq ⟨okL h, okL (by simp [okNs])⟩, eqP_L, eqPs_nilR]
theorem c_neET (h : okNs 63 xs = true) : CM pg C .ne (.tup xs) (.tup []) S QB = QB (!xs.isEmpty) S := by
  rw [c_ne ⟨okT h, okT (by simp [okNs])⟩, eqP_T, eqPs_nilR]
theorem c_eqET (h : okNs 63 xs = true) : CM pg C .eq (.tup xs) (.tup []) S QB = QB xs.isEmpty S := by
  rw [c_eq ⟨okT h, okT (by simp [okNs])⟩, eqP_T, eqPs_nilR]
theorem okNs_ints {n : Nat} {ns : List Int} : okNs n (ns.map PV.int) = true := okNs_map fun _ _ => by simp [okN]
/-- the text of a string literal is plain -/
theorem str_ok (s : String) : PyData.strOk (Str.ofString s) = true := by
  rw [Str.ofString_eq_toList]
  unfold PyData.strOk
  rw [List.all_toArray, List.all_map, List.all_eq_true]
  intro c _
  show decide (c.toNat < 0x110000) = true
  rw [decide_eq_true_eq]
  have h := c.valid
  have e : c.toNat = c.val.toNat := rfl
  rw [e]
  rcases h with h | h
  · exact Nat.lt_trans h (by decide)
  · exact h.2
/-! ranges -/
theorem rng_mem {j : Int} {n : Nat} (h : n ∈ List.range j.toNat) : (n : Int) < j := by
  have := List.mem_range.mp h
  omega
/-! the pen -/
def pen (ns : List Int) (a e : Int) : Sto := [[.lst (ns.map .int), .int a, .int e]]
theorem pen_get {ns : List Int} {a e : Int} {R : List PV → Sto → Prop} : OP ((pen ns a e)[0]?) S R = R [.lst (ns.map .int), .int a, .int e] S := op_some
theorem pen_0 {ns : List Int} {a e : Int} : (pen ns a e)[0]? = some [.lst (ns.map .int), .int a, .int e] := rfl
theorem pen_put1 {ns : List Int} {a e b : Int} {ρ : EV} (h : ρ[0]? = some (.val (.loc 0))) : mutL 0 ρ (pen ns a e) (fun xs => (L2.ixN xs.length 1).map fun j => xs.set j (.int b)) = .nxt ρ (pen ns b e) := mut_loc h rfl rfl rfl
theorem pen_put2 {ns : List Int} {a e b : Int} {ρ : EV} (h : ρ[0]? = some (.val (.loc 0))) : mutL 0 ρ (pen ns a e) (fun xs => (L2.ixN xs.length 2).map fun j => xs.set j (.int b)) = .nxt ρ (pen ns a b) := mut_loc h rfl rfl rfl
theorem if_by {p : Prop} [Decidable p] {A B : Prop} (a : p → A) (b : ¬p → B) : if p then A else B := by
  by_cases h : p
  · rw [if_pos h]; exact a h
  · rw [if_neg h]; exact b h
/-- the number that a draw raises to a power is small -/
theorem digest_small {b a c1 c2 c3 : Int} (h : (0 ≤ b ∧ b < 2147483648) ∧ (0 ≤ a ∧ a < 1000000) ∧ (0 ≤ c1 ∧ c1 < 1000000) ∧ (0 ≤ c2 ∧ c2 < 1000000) ∧ 0 ≤ c3 ∧ c3 < 1000000) : -18446744073709551616 < b * (2 * a + c1) + c2 * a * a + c3 ∧ b * (2 * a + c1) + c2 * a * a + c3 < 18446744073709551616 := by
  obtain ⟨hb, ha, h1, h2, h3⟩ := h
  have q1 : 0 ≤ b * (2 * a + c1) := Int.mul_nonneg hb.1 (by omega)
  have q2 : b * (2 * a + c1) ≤ 2147483648 * 3000000 := Int.mul_le_mul (by omega) (by omega) (by omega) (by omega)
  have q3 : 0 ≤ c2 * a := Int.mul_nonneg h2.1 ha.1
  have q4 : c2 * a ≤ 1000000 * 1000000 := Int.mul_le_mul (by omega) (by omega) (by omega) (by omega)
  have q5 : 0 ≤ c2 * a * a := Int.mul_nonneg q3 ha.1
  have q6 : c2 * a * a ≤ 1000000 * 1000000 * 1000000 := Int.mul_le_mul q4 (by omega) (by omega) (by omega)
  constructor <;> omega
/-- a drawn number -/
def Drew (ns : List Int) (a k : Int) (v : PV) (S' : Sto) : Prop := ∃ d a' e', v = .int d ∧ S' = pen ns a' e' ∧ 0 ≤ d ∧ d < k ∧ a ≤ a' ∧ a' ≤ a + 1
theorem Drew.of {ns : List Int} {a k x a' e' : Int} (hk : 0 < k) (h : a ≤ a' ∧ a' ≤ a + 1) : Drew ns a k (.int (x % k)) (pen ns a' e') := ⟨_, _, _, rfl, rfl, Int.emod_nonneg _ (by omega), Int.emod_lt_of_pos _ hk, h.1, h.2⟩
/-- the pen after at most b draws -/
def Pn (ns : List Int) (b : Int) (S : Sto) : Prop := ∃ a e, S = pen ns a e ∧ 0 ≤ a ∧ a ≤ b
theorem Pn.up {ns : List Int} {b c : Int} {S : Sto} (h : Pn ns b S) (k : b ≤ c) : Pn ns c S := by
  obtain ⟨a, e, h1, h2, h3⟩ := h
  exact ⟨a, e, h1, h2, by omega⟩
theorem Pn.of {ns : List Int} : Pn ns 0 (pen ns 0 0) := ⟨0, 0, rfl, by omega, by omega⟩
theorem Drew.pn {ns : List Int} {a b k : Int} {v : PV} {S' : Sto} (h : Drew ns a k v S') (h0 : 0 ≤ a) (hb : a ≤ b) : ∃ d, v = .int d ∧ (0 ≤ d ∧ d < k) ∧ Pn ns (b + 1) S' := by
  obtain ⟨d, a', e', h1, h2, h3, h4, h5, h6⟩ := h
  exact ⟨d, h1, ⟨h3, h4⟩, a', e', h2, by omega, by omega⟩
/-! comprehensions, opened -/
theorem lc_inv' {F : PV → M (Option PV)} (I : Nat → List PV → Sto → Prop) : ∀ (xs : List PV) (k : Nat) (zs : List PV) (S : Sto), I k zs S → (∀ j x zs S, k ≤ j → j < k + xs.length → x ∈ xs → I j zs S → W (F x) S fun y S1 => ∃ z, y = some z ∧ I (j + 1) (zs ++ [z]) S1) → W (lcL F xs) S fun ys S' => I (k + xs.length) (zs ++ ys) S'
  | [], k, zs, S, h, _ => by
    refine w_of (a := []) (S' := S) rfl ?_
    rw [List.append_nil]; exact h
  | x :: xs, k, zs, S, h, st => by
    refine w_bnd (w_imp (st k x zs S (Nat.le_refl _) (by simp only [List.length_cons]; omega) (List.mem_cons_self ..) h) fun y S1 h1 => ?_)
    obtain ⟨z, rfl, h1⟩ := h1
    refine w_bnd (w_imp (lc_inv' I xs (k + 1) (zs ++ [z]) S1 h1 fun j y zs S a b hy => st j y zs S (by omega) (by simp only [List.length_cons]; omega) (List.mem_cons_of_mem _ hy)) fun ys S2 h2 => ?_)
    show I _ _ _
    rw [List.append_assoc] at h2
    rw [List.length_cons, show k + (xs.length + 1) = k + 1 + xs.length by omega]
    exact h2
theorem lc_inv {F : PV → M (Option PV)} {R : List PV → Sto → Prop} (I : Nat → List PV → Sto → Prop) (h0 : I 0 [] S) (st : ∀ k x zs S, k < xs.length → x ∈ xs → I k zs S → W (F x) S fun y S1 => ∃ z, y = some z ∧ I (k + 1) (zs ++ [z]) S1) (d : ∀ zs S', I xs.length zs S' → R zs S') : W (lcL F xs) S R :=
  w_imp (lc_inv' I xs 0 [] S h0 fun j x zs S _ h hx => st j x zs S (by omega) hx) fun ys S1 h => d ys S1 (by rw [Nat.zero_add, List.nil_append] at h; exact h)
theorem lc_map {α : Type} {l : List α} {f g : α → PV} {F : PV → M (Option PV)} {R : List PV → Sto → Prop} (h : ∀ x ∈ l, W (F (f x)) S fun y S1 => y = some (g x) ∧ S1 = S) (d : R (l.map g) S) : W (lcL F (l.map f)) S R := by
  refine w_of (lcL_map (p := fun _ => true) (g := g) fun x hx => w_imp (h x hx) fun y S1 q => ⟨by rw [q.1]; rfl, q.2⟩) ?_
  rw [List.filter_eq_self.mpr fun _ _ => rfl]
  exact d
theorem lc_filt {α : Type} {l : List α} {f g : α → PV} (p : α → Bool) {F : PV → M (Option PV)} {R : List PV → Sto → Prop} (h : ∀ x ∈ l, W (F (f x)) S fun y S1 => y = (if p x then some (g x) else none) ∧ S1 = S) (d : R ((l.filter p).map g) S) : W (lcL F (l.map f)) S R := w_of (lcL_map h) d
theorem ln_i {n : Nat} {P : Prop} (h : n ≤ 16777216) (p : P) : LN n P := ⟨h, p⟩
/-! types -/
theorem is_ii : IS pg [.b "int"] (.int i) S Q = Q (.bl true) S := is_of rfl rfl
theorem is_ib : IS pg [.b "bool"] (.int i) S Q = Q (.bl false) S := is_of rfl rfl
theorem is_ss {x : Str} : IS pg [.b "str"] (.str x) S Q = Q (.bl true) S := is_of rfl rfl
theorem is_ll : IS pg [.b "list", .b "tuple"] (.lst xs) S Q = Q (.bl true) S := is_of rfl rfl
theorem is_lt : IS pg [.b "list", .b "tuple"] (.tup xs) S Q = Q (.bl true) S := is_of rfl rfl
theorem is_cc {c : Nat} {ns : List Str} (h : decide (c < pg.cls.length) = true) : IS pg [.c c] (.ins c ns xs) S Q = Q (.bl true) S := by
  refine is_of rfl ?_
  show (match (if decide (c < pg.cls.length) && decide (c < pg.cls.length) then some (c == c || (pg.cls.getD c default).above.contains c) else none) with
    | some true => some true
    | some false => isiP pg (.c c) []
    | none => none) = some true
  rw [h]
  simp
/-! all -/
theorem f_all {α : Type} {g : α → Bool} {l : List α} : OP (bifP .all [.lst (l.map fun z => .bl (g z))]) S Q = Q (.bl (l.all g)) S := by
  have h : ∀ l : List α, getBs (l.map fun z => .bl (g z)) = some (l.map g) := fun l => by
    induction l with
    | nil => rfl
    | cons a l ih =>
      show getBs (.bl (g a) :: l.map fun z => .bl (g z)) = _
      simp only [getBs, ih, Option.map_some]
      rfl
  refine op_by ?_
  show (getBs (l.map fun z => .bl (g z))).map (fun bs => PV.bl (bs.all id)) = _
  rw [h, Option.map_some, List.all_map]; rfl
theorem f_allT {α : Type} {l : List α} : OP (bifP .all [.lst (l.map fun _ => .bl true)]) S Q = Q (.bl true) S := by
  rw [f_all (g := fun _ => true)]
  rw [List.all_eq_true.mpr fun _ _ => rfl]
/-- what gives one answer -/
theorem w_eqn {m : M PV} {a : PV} {S' : Sto} (h : W m S fun v S1 => v = a ∧ S1 = S') : W m S Q = Q a S' := w_by (w_eq h)
/-! loops over a range -/
theorem range_mid {N x : Nat} {pre post : List Nat} (h : List.range N = pre ++ x :: post) : x = pre.length ∧ x < N := by
  have h1 : (List.range N)[pre.length]? = some x := by rw [h, List.getElem?_append_right (Nat.le_refl _), Nat.sub_self, List.getElem?_cons_zero]
  have h2 : pre.length < N := by
    have := congrArg List.length h
    rw [List.length_range, List.length_append, List.length_cons] at this
    omega
  rw [List.getElem?_range h2] at h1
  cases h1
  exact ⟨rfl, h2⟩
theorem wl_rng {t : Tgt} {b : Stts} {N : Nat} {f : Nat → PV} {ρ : EV} {P : Res → Prop} (I : Nat → EV → Sto → Prop) (h : I 0 ρ S) (st : ∀ i ρ S, i < N → I i ρ S → ∃ ρ1, asgT t (f i) ρ = some ρ1 ∧ WS pg C b ρ1 S (loP (I (i + 1)) P)) (d : ∀ ρ S, I N ρ S → P (.nxt ρ S)) : WL pg C t b ((List.range N).map f) ρ S P :=
  wl_byL (fun pre ρ S => I pre.length ρ S) h (fun pre x post ρ S e hi => by
    obtain ⟨h1, h2⟩ := range_mid e
    obtain ⟨ρ1, a, w⟩ := st pre.length ρ S (by omega) hi
    rw [← h1] at a
    refine ⟨ρ1, a, ?_⟩
    rw [List.length_append]
    exact w) fun ρ S hi => d ρ S (by rw [List.length_range] at hi; exact hi)
end
theorem cm_neO_eq {pg : Pg} {C : Calls} {S : Sto} {QB : Bool → Sto → Prop} {c f : Nat} {k : Bool} {ns : List Str} {xs : List PV} {y : PV} (hf : (pg.cls.getD c default).meths.lookup ("__eq__" : Str) = some f) (hs : subOk pg c y = true) (h : W (C.fn f [.ins c ns xs, y]) S fun v S1 => v = .bl k ∧ S1 = S) : CM pg C .ne (.ins c ns xs) y S QB = QB (!k) S := by
  have q : W (cmpM pg C .ne (.ins c ns xs) y) S fun b S1 => b = (!k) ∧ S1 = S := cm_neO hf hs (w_imp h fun v S1 q => ⟨k, q.1, rfl, q.2⟩)
  exact w_by (w_eq q)
theorem f_sl63 {S : Sto} {Q : PV → Sto → Prop} {ns : List Int} {lo hi : Option Int} : OP (slcP (.scr ns) lo hi) S Q = Q (.lst (cutP (ns.map .int) lo hi)) S := op_some
def forB : Stts → Stts
  | .cons (.for_ _ _ b) _ => b
  | s => s
def tlS : Stts → Stts
  | .cons _ t => t
  | s => s
/-! repr -/
def Shows (v : PV) : Prop := ∃ z, bifP .repr [v] = some (.str z)
theorem Shows.ne {pg : Pg} {C : Calls} {S : Sto} {QB : Bool → Sto → Prop} {v : PV} (h : Shows v) : (OP (bifP .repr [v]) S fun x S1 => OP (bifP .repr [v]) S1 fun y S2 => CM pg C .ne x y S2 QB) = QB false S := by
  obtain ⟨z, hz⟩ := h
  rw [op_by hz, op_by hz, c_neS, beq_self_eq_true]; rfl
theorem shows_non : Shows .non := ⟨_, rfl⟩
theorem shows_int {i : Int} (h : -1000000000000 ≤ i ∧ i ≤ 1000000000000) : Shows (.int i) := by
  refine ⟨(toString i : String), ?_⟩
  show (if i.natAbs.log2 < 1920 then some (PV.str (toString i : String)) else none) = _
  rw [if_pos]
  by_cases h0 : i.natAbs = 0
  · rw [h0]; decide
  · rw [Nat.log2_lt h0]
    have : i.natAbs ≤ 1000000000000 := by omega
    exact Nat.lt_of_le_of_lt this (by decide)
def Rp (k n : Nat) (x : PV) : Prop := ∃ d, toD x = some d ∧ okN k x = true ∧ d.showable = true ∧ d.leavesShort 13 = true ∧ d.bulk ≤ n
theorem rp_all {k n : Nat} : ∀ {xs : List PV}, (∀ x ∈ xs, Rp k n x) → ∃ ds, toDs xs = some ds ∧ okNs k xs = true ∧ PyData.showableAll ds = true ∧ PyData.leavesShortAll 13 ds = true ∧ PyData.bulkAll ds ≤ xs.length * (n + 1)
  | [], _ => ⟨[], rfl, by simp [okNs], by simp [PyData.showableAll], by simp [PyData.leavesShortAll], by simp [PyData.bulkAll]⟩
  | x :: xs, h => by
    obtain ⟨d, a1, a2, a3, a4, a5⟩ := h x (List.mem_cons_self ..)
    obtain ⟨ds, b1, b2, b3, b4, b5⟩ := rp_all fun y hy => h y (List.mem_cons_of_mem _ hy)
    refine ⟨d :: ds, by simp [toDs, a1, b1], by simp [okNs, a2, b2], by simp [PyData.showableAll, a3, b3], by simp [PyData.leavesShortAll, a4, b4], ?_⟩
    simp only [PyData.bulkAll, List.length_cons, Nat.succ_mul]
    omega
theorem rp_tup {k n m : Nat} {xs : List PV} (h : ∀ x ∈ xs, Rp k n x) (hm : xs.length * (n + 1) ≤ m) : Rp (k + 1) m (.tup xs) := by
  obtain ⟨ds, b1, b2, b3, b4, b5⟩ := rp_all h
  exact ⟨.tuple ds, by simp [toD, b1], okT b2, by simp [PyData.showable, b3], by simp [PyData.leavesShort, b4], by simp only [PyData.bulk]; omega⟩
theorem rp_lst {k n m : Nat} {xs : List PV} (h : ∀ x ∈ xs, Rp k n x) (hm : xs.length * (n + 1) ≤ m) : Rp (k + 1) m (.lst xs) := by
  obtain ⟨ds, b1, b2, b3, b4, b5⟩ := rp_all h
  exact ⟨.list ds, by simp [toD, b1], okL b2, by simp [PyData.showable, b3], by simp [PyData.leavesShort, b4], by simp only [PyData.bulk]; omega⟩
theorem rp_up {k k' n n' : Nat} {x : PV} (h : Rp k n x) (hk : okN k' x = true) (hn : n ≤ n') : Rp k' n' x := by
  obtain ⟨d, a1, a2, a3, a4, a5⟩ := h
  exact ⟨d, a1, hk, a3, a4, by omega⟩
theorem rp_shows {n : Nat} {x : PV} (h : Rp 60 n x) (hn : n ≤ 1048576) (hx : bifP .repr [x] = reprP x) : Shows x := by
  obtain ⟨d, a1, a2, a3, a4, a5⟩ := h
  refine ⟨d.shown, ?_⟩
  rw [hx]
  unfold reprP
  rw [if_pos a2, a1]
  have p20 : (2 : Nat) ^ 20 = 1048576 := by decide
  have q := PyData.shown_fits_bulk (B := 13) (by decide) (by decide) a4 (Nat.le_trans a5 (by rw [p20]; exact hn))
  rw [sizeLine_eq] at q
  show (if (d.showable && decide (d.shown.length ≤ line)) = true then some (PV.str d.shown) else none) = _
  rw [if_pos]
  rw [a3, Bool.true_and, decide_eq_true_eq]
  exact q
/-! the calls, closed to the unifier -/
@[irreducible] def cal (pg : Pg) (n : Nat) : Calls := calls pg n
theorem cal_eq {pg : Pg} {n : Nat} : cal pg n = calls pg n := by unfold cal; rfl
section
variable {pg : Pg} {S : Sto} {Q : PV → Sto → Prop} {ρ : EV}
theorem w_fnC {n i : Nat} {d : FnD} {vs : List PV} (hd : pg.fns[i]? = some d) (hl : vs.length = d.np) (he : vs.map Sl.val ++ List.replicate (d.nn - d.np) .emp = ρ) (h : WS pg (cal pg n) d.body ρ S (fnP Q)) : W ((cal pg (n + 1)).fn i vs) S Q := by
  rw [cal_eq] at h ⊢
  exact w_fn hd hl he h
theorem w_newC {n c : Nat} {cd : ClsD} {d : FnD} {vs : List PV} (hc : pg.cls[c]? = some cd) (hd : pg.fns[cd.init]? = some d) (hl : vs.length + 1 = d.np) (he : .obj c [] [] :: vs.map Sl.val ++ List.replicate (d.nn - d.np) .emp = ρ) (h : WS pg (cal pg n) d.body ρ S (initP Q)) : W ((cal pg (n + 1)).new c vs) S Q := by
  rw [cal_eq] at h ⊢
  exact w_new hc hd hl he h
end
end PW

set_option Elab.async false
set_option linter.all false
set_option maxRecDepth 100000
namespace K51
open PySem PySem.Spec PyProof.Rows L2 PF
def top (i : Nat) : Stmt := PySem.Challenge.pw_lookingdays_k51_whole_days_of_calendars.main.body.getD i (.Pass ⟨0, 0, 0, 0⟩)
abbrev s0 : Stmt := top 8
def d0 : He.DefD := ⟨("is_integer", none), "is_integer", "is_integer", defArgs s0, defBody s0, defScope s0, [], []⟩
def t0 : DefT := ⟨d0, ["value"], ["value"], { own := [], new := false }⟩
abbrev s1 : Stmt := top 9
def d1 : He.DefD := ⟨("is_listed", none), "is_listed", "is_listed", defArgs s1, defBody s1, defScope s1, [], []⟩
def t1 : DefT := ⟨d1, ["value"], ["value"], { own := [], new := false }⟩
abbrev s2 : Stmt := top 10
def d2 : He.DefD := ⟨("is_name", none), "is_name", "is_name", defArgs s2, defBody s2, defScope s2, [], []⟩
def t2 : DefT := ⟨d2, ["value", "sign"], ["value"], { own := [], new := false }⟩
abbrev s3 : Stmt := top 11
def d3 : He.DefD := ⟨("need_integer", none), "need_integer", "need_integer", defArgs s3, defBody s3, defScope s3, [.non], []⟩
def t3 : DefT := ⟨d3, ["part", "value", "least", "most"], ["part", "value", "least", "most"], { own := [], new := false }⟩
abbrev s4 : Stmt := top 12
def d4 : He.DefD := ⟨("is_rising", none), "is_rising", "is_rising", defArgs s4, defBody s4, defScope s4, [], []⟩
def t4 : DefT := ⟨d4, ["row", "one", "other"], ["row"], { own := [], new := false }⟩
abbrev s5 : Stmt := top 13
def d5 : He.DefD := ⟨("is_lot", none), "is_lot", "is_lot", defArgs s5, defBody s5, defScope s5, [], []⟩
def t5 : DefT := ⟨d5, ["value", "name"], ["value"], { own := [], new := false }⟩
abbrev s6 : Stmt := (rowsIn (top 17)).getD 0 (.Pass ⟨0, 0, 0, 0⟩)
def d6 : He.DefD := ⟨("Calendar", some "__init__"), "__init__", "Calendar.__init__", defArgs s6, defBody s6, defScope s6, [], []⟩
def t6 : DefT := ⟨d6, ["self", "begin", "lap"], ["self", "begin", "lap"], { own := [], new := false }⟩
abbrev s7 : Stmt := (rowsIn (top 17)).getD 1 (.Pass ⟨0, 0, 0, 0⟩)
def d7 : He.DefD := ⟨("Calendar", some "__eq__"), "__eq__", "Calendar.__eq__", defArgs s7, defBody s7, defScope s7, [], []⟩
def t7 : DefT := ⟨d7, ["self", "other"], ["self", "other"], { own := [], new := false }⟩
abbrev s8 : Stmt := (rowsIn (top 17)).getD 3 (.Pass ⟨0, 0, 0, 0⟩)
def d8 : He.DefD := ⟨("Calendar", some "day_at"), "day_at", "Calendar.day_at", defArgs s8, defBody s8, defScope s8, [], []⟩
def t8 : DefT := ⟨d8, ["self", "day"], ["self", "day"], { own := [], new := false }⟩
abbrev s9 : Stmt := (rowsIn (top 17)).getD 4 (.Pass ⟨0, 0, 0, 0⟩)
def d9 : He.DefD := ⟨("Calendar", some "shifted"), "shifted", "Calendar.shifted", defArgs s9, defBody s9, defScope s9, [], []⟩
def t9 : DefT := ⟨d9, ["self", "days"], ["self", "days"], { own := [], new := false }⟩
abbrev s10 : Stmt := (rowsIn (top 17)).getD 5 (.Pass ⟨0, 0, 0, 0⟩)
def d10 : He.DefD := ⟨("Calendar", some "shortest"), "shortest", "Calendar.shortest", defArgs s10, defBody s10, defScope s10, [], []⟩
def t10 : DefT := ⟨d10, ["self"], ["self"], { own := [], new := false }⟩
abbrev s11 : Stmt := top 18
def d11 : He.DefD := ⟨("need_days", none), "need_days", "need_days", defArgs s11, defBody s11, defScope s11, [], []⟩
def t11 : DefT := ⟨d11, ["part", "value", "lot"], ["part", "value"], { own := [], new := false }⟩
abbrev s12 : Stmt := top 19
def d12 : He.DefD := ⟨("need_calendar", none), "need_calendar", "need_calendar", defArgs s12, defBody s12, defScope s12, [.str "calendar"], []⟩
def t12 : DefT := ⟨d12, ["value", "part"], ["value", "part"], { own := [], new := false }⟩
abbrev s13 : Stmt := top 20
def d13 : He.DefD := ⟨("lot_at", none), "lot_at", "lot_at", defArgs s13, defBody s13, defScope s13, [], []⟩
def t13 : DefT := ⟨d13, ["calendar", "day", "many"], ["calendar", "day"], { own := [], new := false }⟩
abbrev s14 : Stmt := top 21
def d14 : He.DefD := ⟨("shifted_by", none), "shifted_by", "shifted_by", defArgs s14, defBody s14, defScope s14, [], []⟩
def t14 : DefT := ⟨d14, ["calendar", "days", "at"], ["calendar", "days"], { own := [], new := false }⟩
abbrev s15 : Stmt := top 22
def d15 : He.DefD := ⟨("shortest_of", none), "shortest_of", "shortest_of", defArgs s15, defBody s15, defScope s15, [], []⟩
def t15 : DefT := ⟨d15, ["begin", "lap", "many"], ["begin", "lap"], { own := [], new := false }⟩
abbrev s16 : Stmt := top 23
def d16 : He.DefD := ⟨("shared_length", none), "shared_length", "shared_length", defArgs s16, defBody s16, defScope s16, [], []⟩
def t16 : DefT := ⟨d16, ["one", "other", "low", "high"], ["one", "other"], { own := [], new := false }⟩
abbrev s17 : Stmt := top 24
def d17 : He.DefD := ⟨("common_days", none), "common_days", "common_days", defArgs s17, defBody s17, defScope s17, [], []⟩
def t17 : DefT := ⟨d17, ["one", "other"], ["one", "other"], { own := [], new := false }⟩
abbrev s18 : Stmt := top 25
def d18 : He.DefD := ⟨("first_unlike", none), "first_unlike", "first_unlike", defArgs s18, defBody s18, defScope s18, [], []⟩
def t18 : DefT := ⟨d18, ["one", "other", "day"], ["one", "other"], { own := [], new := false }⟩
abbrev s19 : Stmt := top 27
def d19 : He.DefD := ⟨("_law_pen", none), "_law_pen", "_law_pen", defArgs s19, defBody s19, defScope s19, [], []⟩
def t19 : DefT := ⟨d19, ["script", "cell"], ["script"], { own := [], new := true }⟩
abbrev s20 : Stmt := top 28
def d20 : He.DefD := ⟨("_law_draw", none), "_law_draw", "_law_draw", defArgs s20, defBody s20, defScope s20, [], []⟩
def t20 : DefT := ⟨d20, ["pen", "many", "digit", "at", "cell", "great", "blend"], ["pen", "many"], { own := [], new := false }⟩
abbrev s21 : Stmt := top 29
def d21 : He.DefD := ⟨("_law_pick", none), "_law_pick", "_law_pick", defArgs s21, defBody s21, defScope s21, [], []⟩
def t21 : DefT := ⟨d21, ["pen", "some"], ["pen", "some"], { own := [], new := false }⟩
abbrev s22 : Stmt := top 30
def d22 : He.DefD := ⟨("_law_lot_at", none), "_law_lot_at", "_law_lot_at", defArgs s22, defBody s22, defScope s22, [], []⟩
def t22 : DefT := ⟨d22, ["begin", "lap", "day"], ["begin", "lap", "day"], { own := [], new := false }⟩
abbrev s23 : Stmt := top 31
def d23 : He.DefD := ⟨("_law_some", none), "_law_some", "_law_some", defArgs s23, defBody s23, defScope s23, [], []⟩
def t23 : DefT := ⟨d23, ["pen", "things", "most", "left", "found", "turn"], ["pen", "things", "most"], { own := [3, 4], new := false }⟩
abbrev s24 : Stmt := top 32
def d24 : He.DefD := ⟨("_law_days", none), "_law_days", "_law_days", defArgs s24, defBody s24, defScope s24, [], []⟩
def t24 : DefT := ⟨d24, ["pen", "names", "most", "turn"], ["pen", "names", "most"], { own := [], new := false }⟩
abbrev s25 : Stmt := top 33
def d25 : He.DefD := ⟨("_law_calendar", none), "_law_calendar", "_law_calendar", defArgs s25, defBody s25, defScope s25, [], []⟩
def t25 : DefT := ⟨d25, ["pen", "names", "lap"], ["pen", "names"], { own := [], new := false }⟩
abbrev s26 : Stmt := top 34
def d26 : He.DefD := ⟨("_law_same", none), "_law_same", "_law_same", defArgs s26, defBody s26, defScope s26, [], []⟩
def t26 : DefT := ⟨d26, ["begin", "lap", "first", "again", "day"], ["begin", "lap", "first", "again"], { own := [], new := false }⟩
abbrev s27 : Stmt := top 35
def d27 : He.DefD := ⟨("_law_least", none), "_law_least", "_law_least", defArgs s27, defBody s27, defScope s27, [], []⟩
def t27 : DefT := ⟨d27, ["begin", "lap", "many", "ahead", "first", "again", "day"], ["begin", "lap"], { own := [], new := false }⟩
abbrev s28 : Stmt := top 36
def d28 : He.DefD := ⟨("law", none), "law", "law", defArgs s28, defBody s28, defScope s28, [], []⟩
def t28 : DefT := ⟨d28, ["script", "pen", "turn", "names", "made", "day", "days", "told", "other", "due", "begin", "lap", "many", "later", "first", "again"], ["script"], { own := [], new := false }⟩
def defs : List DefT := [t0, t1, t2, t3, t4, t5, t6, t7, t8, t9, t10, t11, t12, t13, t14, t15, t16, t17, t18, t19, t20, t21, t22, t23, t24, t25, t26, t27, t28]
def freeN : List Str := ["len", "int", "abs", "tuple", "list", "sorted", "max", "all", "repr", "str", "bool", "isinstance", "range", "zip"]
def fnL : List (Str × Nat) := [("is_integer", 0), ("is_listed", 1), ("is_name", 2), ("need_integer", 3), ("is_rising", 4), ("is_lot", 5), ("need_days", 11), ("need_calendar", 12), ("lot_at", 13), ("shifted_by", 14), ("shortest_of", 15), ("shared_length", 16), ("common_days", 17), ("first_unlike", 18), ("_law_pen", 19), ("_law_draw", 20), ("_law_pick", 21), ("_law_lot_at", 22), ("_law_some", 23), ("_law_days", 24), ("_law_calendar", 25), ("_law_same", 26), ("_law_least", 27), ("law", 28)]
def clL : List (Str × Nat) := [("Calendar", 0)]
def glL : List (Str × PV) := [("LONGEST", .int 12), ("MOST_LAP", .int 600), ("FARTHEST", .int 1000000000000000000000000000000)]
def clsL : List ClsD := [⟨"Calendar", 6, ["begin", "lap"], [("__eq__", 7), ("day_at", 8), ("shifted", 9), ("shortest", 10)], []⟩]
def shF : List ((Nat × Nat × List Str) × List Sel) := [((12, 2, []), [.p 0, .p 1]), ((19, 1, []), [.p 0]), ((1, 1, []), [.p 0]), ((4, 1, []), [.p 0]), ((11, 2, []), [.p 0, .p 1]), ((13, 2, []), [.p 0, .p 1]), ((14, 2, []), [.p 0, .p 1]), ((15, 2, []), [.p 0, .p 1]), ((16, 2, []), [.p 0, .p 1]), ((20, 2, []), [.p 0, .p 1]), ((24, 3, []), [.p 0, .p 1, .p 2]), ((21, 2, []), [.p 0, .p 1]), ((25, 2, []), [.p 0, .p 1]), ((27, 2, []), [.p 0, .p 1]), ((0, 1, []), [.p 0]), ((3, 4, []), [.p 0, .p 1, .p 2, .p 3]), ((17, 2, []), [.p 0, .p 1]), ((23, 3, []), [.p 0, .p 1, .p 2]), ((22, 3, []), [.p 0, .p 1, .p 2]), ((26, 4, []), [.p 0, .p 1, .p 2, .p 3]), ((18, 0, ["other", "one"]), [.k 1, .k 0]), ((2, 1, []), [.p 0]), ((18, 2, []), [.p 0, .p 1]), ((5, 1, []), [.p 0])]
def shM : List ((Nat × Nat × List Str) × List Sel) := [((0, 2, []), [.p 0, .p 1])]
def shT : List ((Str × Nat × List Str) × List Sel) := [(("shortest", 0, []), []), (("shifted", 1, []), [.p 0]), (("shifted", 0, ["days"]), [.k 0]), (("day_at", 0, ["day"]), [.k 0]), (("day_at", 1, []), [.p 0]), (("__eq__", 1, []), [.p 0])]
def faL : List He.Fa := [.free "len", .free "int", .free "abs", .free "tuple", .free "list", .free "sorted", .free "max", .free "all", .free "repr", .free "str", .free "bool", .free "isinstance", .free "range", .free "zip", .glo "is_integer", .glo "is_listed", .glo "is_name", .glo "need_integer", .glo "is_rising", .glo "is_lot", .glo "need_days", .glo "need_calendar", .glo "lot_at", .glo "shifted_by", .glo "shortest_of", .glo "shared_length", .glo "common_days", .glo "first_unlike", .glo "_law_pen", .glo "_law_draw", .glo "_law_pick", .glo "_law_lot_at", .glo "_law_some", .glo "_law_days", .glo "_law_calendar", .glo "_law_same", .glo "_law_least", .glo "law", .glo "Calendar", .int "LONGEST" 12, .int "MOST_LAP" 600, .int "FARTHEST" 1000000000000000000000000000000, .cls "Calendar", .noat "Calendar" "begin", .noat "Calendar" "lap", .meth "Calendar" "__eq__", .meth "Calendar" "day_at", .meth "Calendar" "shifted", .meth "Calendar" "shortest", .mkr "Calendar"]
def fnD : List He.DefD := defs.map (·.d)
def lawI : Nat := 36
def looseN : List Str := ["_wall", "DaysError", "BadNumber", "BadCalendar", "TooMany", "LONGEST", "is_integer", "is_listed", "is_name", "need_integer", "is_rising", "is_lot", "MOST_LAP", "FARTHEST", "Calendar", "need_days", "need_calendar", "lot_at", "shifted_by", "shortest_of", "shared_length", "common_days", "first_unlike", "_law_pen", "_law_draw", "_law_pick", "_law_lot_at", "_law_some", "_law_days", "_law_calendar", "_law_same", "_law_least"]
def prog : PgT := { defs := defs, free := freeN, fnL := fnL, clL := clL, glL := glL, cls := clsL, shF := shF, shM := shM, shT := shT }
end K51

set_option Elab.async false
set_option linter.all false
set_option maxRecDepth 100000
set_option maxHeartbeats 0
namespace K51
open PySem PySem.Spec PyProof.Rows L2 PF
def b0 : Stts := (.cons (.ret (.and (.isi (.bor 0) [.b "int"]) (.not (.isi (.bor 0) [.b "bool"])))) .nil)
def b1 : Stts := (.cons (.ret (.isi (.bor 0) [.b "list", .b "tuple"])) .nil)
def b2 : Stts := (.cons (.iff (.or (.not (.isi (.bor 0) [.b "str"])) (.not (.chn .le .le (.cst (.int 1)) (.bif .len (.cons (.bor 0) .nil)) (.glb "LONGEST" (.int 12))))) (.cons (.ret (.cst (.bl false))) .nil) .nil) (.cons (.ret (.bif .all (.cons (.lc (.chn .le .le (.cst (.str "a")) (.bor 1) (.cst (.str "z"))) (.nm 1) (.val (.var 0)) .none [1]) .nil))) .nil))
def b3 : Stts := (.cons (.iff (.or (.not (.call 0 (.cons (.var 1) .nil) .nil [.p 0])) (.cmp .lt (.bor 1) (.bor 2))) (.cons .stk .nil) .nil) (.cons (.iff (.and (.cmp .notn (.bor 3) (.cst .non)) (.cmp .gt (.bor 1) (.bor 3))) (.cons .stk .nil) .nil) (.cons (.ret (.var 1)) .nil)))
def b4 : Stts := (.cons (.ret (.bif .all (.cons (.lc (.cmp .lt (.bor 1) (.bor 2)) (.tp [1, 2]) (.zip (.var 0) (.slc (.bor 0) (.some (.cst (.int 1))) .none)) .none [1, 2]) .nil))) .nil)
def b5 : Stts := (.cons (.ret (.and (.call 1 (.cons (.var 0) .nil) .nil [.p 0]) (.and (.bif .all (.cons (.lc (.call 2 (.cons (.var 1) .nil) .nil [.p 0]) (.nm 1) (.val (.var 0)) .none [1]) .nil)) (.call 4 (.cons (.bif .list (.cons (.bor 0) .nil)) .nil) .nil [.p 0])))) .nil)
def b6 : Stts := (.cons (.fld 0 "begin" (.call 11 (.cons (.cst (.str "begin")) (.cons (.var 1) .nil)) .nil [.p 0, .p 1])) (.cons (.fld 0 "lap" (.call 11 (.cons (.cst (.str "lap")) (.cons (.var 2) .nil)) .nil [.p 0, .p 1])) (.cons (.iff (.cmp .eq (.atO 0 "lap") (.tup .nil)) (.cons .stk .nil) .nil) (.cons (.iff (.or (.cmp .gt (.bif .len (.cons (.atO 0 "begin") .nil)) (.glb "MOST_LAP" (.int 600))) (.cmp .gt (.bif .len (.cons (.atO 0 "lap") .nil)) (.glb "MOST_LAP" (.int 600)))) (.cons .stk .nil) .nil) .nil))))
def b7 : Stts := (.cons (.iff (.not (.isi (.bor 1) [.c 0])) (.cons (.ret (.cst (.bl false))) .nil) .nil) (.cons (.ret (.and (.cmp .eq (.atO 0 "begin") (.atO 1 "begin")) (.cmp .eq (.atO 0 "lap") (.atO 1 "lap")))) .nil))
def b8 : Stts := (.cons (.ret (.call 13 (.cons (.var 0) (.cons (.call 3 (.cons (.cst (.str "day")) (.cons (.var 1) (.cons (.cst (.int 1)) (.cons (.glb "FARTHEST" (.int 1000000000000000000000000000000)) .nil)))) .nil [.p 0, .p 1, .p 2, .p 3]) .nil)) .nil [.p 0, .p 1])) .nil)
def b9 : Stts := (.cons (.ret (.call 14 (.cons (.var 0) (.cons (.call 3 (.cons (.cst (.str "days")) (.cons (.var 1) (.cons (.cst (.int 0)) (.cons (.glb "FARTHEST" (.int 1000000000000000000000000000000)) .nil)))) .nil [.p 0, .p 1, .p 2, .p 3]) .nil)) .nil [.p 0, .p 1])) .nil)
def b10 : Stts := (.cons (.ret (.call 15 (.cons (.bif .list (.cons (.atO 0 "begin") .nil)) (.cons (.bif .list (.cons (.atO 0 "lap") .nil)) .nil)) .nil [.p 0, .p 1])) .nil)
def b11 : Stts := (.cons (.iff (.or (.not (.call 1 (.cons (.var 1) .nil) .nil [.p 0])) (.not (.bif .all (.cons (.lc (.call 5 (.cons (.var 2) .nil) .nil [.p 0]) (.nm 2) (.val (.var 1)) .none [2]) .nil)))) (.cons .stk .nil) .nil) (.cons (.ret (.bif .tuple (.cons (.lc (.bif .tuple (.cons (.bor 2) .nil)) (.nm 2) (.val (.var 1)) .none [2]) .nil))) .nil))
def b12 : Stts := (.cons (.iff (.not (.isi (.bor 0) [.c 0])) (.cons .stk .nil) .nil) (.cons (.ret (.var 0)) .nil))
def b13 : Stts := (.cons (.set 2 (.bif .len (.cons (.atO 0 "begin") .nil))) (.cons (.iff (.cmp .le (.bor 1) (.bor 2)) (.cons (.ret (.idx (.atO 0 "begin") (.bin .sub (.bor 1) (.cst (.int 1))))) .nil) .nil) (.cons (.ret (.idx (.atO 0 "lap") (.bin .mod (.bin .sub (.bin .sub (.bor 1) (.bor 2)) (.cst (.int 1))) (.bif .len (.cons (.atO 0 "lap") .nil))))) .nil)))
def b14 : Stts := (.cons (.iff (.cmp .le (.bor 1) (.bif .len (.cons (.atO 0 "begin") .nil))) (.cons (.ret (.make 0 (.cons (.slc (.atO 0 "begin") (.some (.bor 1)) .none) (.cons (.atO 0 "lap") .nil)) .nil [.p 0, .p 1])) .nil) .nil) (.cons (.set 2 (.bin .mod (.bin .sub (.bor 1) (.bif .len (.cons (.atO 0 "begin") .nil))) (.bif .len (.cons (.atO 0 "lap") .nil)))) (.cons (.ret (.make 0 (.cons (.tup .nil) (.cons (.bin .add (.slc (.atO 0 "lap") (.some (.bor 2)) .none) (.slc (.atO 0 "lap") .none (.some (.bor 2)))) .nil)) .nil [.p 0, .p 1])) .nil)))
def b15 : Stts := (.cons (.for_ (.nm 2) (.rng2 (.cst (.int 1)) (.bin .add (.bif .len (.cons (.bor 1) .nil)) (.cst (.int 1)))) (.cons (.iff (.and (.cmp .eq (.bin .mod (.bif .len (.cons (.bor 1) .nil)) (.bor 2)) (.cst (.int 0))) (.cmp .eq (.bor 1) (.bin .mul (.slc (.bor 1) .none (.some (.bor 2))) (.bin .fdiv (.bif .len (.cons (.bor 1) .nil)) (.bor 2))))) (.cons (.set 1 (.slc (.bor 1) .none (.some (.bor 2)))) (.cons .brk .nil)) .nil) .nil)) (.cons (.whl (.and (.cmp .ne (.bor 0) (.lst .nil)) (.cmp .eq (.idx (.bor 0) (.neg (.cst (.int 1)))) (.idx (.bor 1) (.neg (.cst (.int 1)))))) (.cons (.set 1 (.bin .add (.slc (.bor 1) (.some (.neg (.cst (.int 1)))) .none) (.slc (.bor 1) .none (.some (.neg (.cst (.int 1))))))) (.cons (.set 0 (.slc (.bor 0) .none (.some (.neg (.cst (.int 1)))))) .nil))) (.cons (.ret (.make 0 (.cons (.var 0) (.cons (.var 1) .nil)) .nil [.p 0, .p 1])) .nil)))
def b16 : Stts := (.cons (.par 2 3 (.var 0) (.var 1) false false) (.cons (.whl (.cmp .ne (.bor 2) (.cst (.int 0))) (.cons (.par 2 3 (.bin .mod (.bor 3) (.bor 2)) (.var 2) false false) .nil)) (.cons (.ret (.bin .fdiv (.bin .mul (.bor 0) (.bor 1)) (.bor 3))) .nil)))
def b17 : Stts := (.cons (.ret (.bin .add (.bif .max (.cons (.bif .len (.cons (.atO 0 "begin") .nil)) (.cons (.bif .len (.cons (.atO 1 "begin") .nil)) .nil))) (.call 16 (.cons (.bif .len (.cons (.atO 0 "lap") .nil)) (.cons (.bif .len (.cons (.atO 1 "lap") .nil)) .nil)) .nil [.p 0, .p 1]))) .nil)
def b18 : Stts := (.cons (.exp (.call 12 (.cons (.var 0) (.cons (.cst (.str "one")) .nil)) .nil [.p 0, .p 1])) (.cons (.exp (.call 12 (.cons (.var 1) (.cons (.cst (.str "other")) .nil)) .nil [.p 0, .p 1])) (.cons (.for_ (.nm 2) (.rng2 (.cst (.int 1)) (.bin .add (.call 17 (.cons (.var 0) (.cons (.var 1) .nil)) .nil [.p 0, .p 1]) (.cst (.int 1)))) (.cons (.iff (.cmp .ne (.call 13 (.cons (.var 0) (.cons (.var 2) .nil)) .nil [.p 0, .p 1]) (.call 13 (.cons (.var 1) (.cons (.var 2) .nil)) .nil [.p 0, .p 1])) (.cons (.ret (.var 2)) .nil) .nil) .nil)) (.cons (.ret (.cst .non)) .nil))))
def b19 : Stts := (.cons (.retNew (.cons (.lc (.bif .int (.cons (.bor 1) .nil)) (.nm 1) (.val (.slc (.bor 0) .none (.some (.cst (.int 63))))) .none [1]) (.cons (.cst (.int 0)) (.cons (.cst (.int 0)) .nil)))) .nil)
def b20 : Stts := (.cons (.iff (.cmp .gt (.idx (.bor 0) (.cst (.int 2))) (.cst (.int 0))) (.cons (.set 2 (.bin .mod (.bif .int (.cons (.idx (.bor 0) (.cst (.int 2))) .nil)) (.bor 1))) (.cons (.sub 0 (.cst (.int 2)) (.bin .fdiv (.bif .int (.cons (.idx (.bor 0) (.cst (.int 2))) .nil)) (.bor 1))) (.cons (.ret (.var 2)) .nil))) .nil) (.cons (.set 3 (.idx (.bor 0) (.cst (.int 1)))) (.cons (.sub 0 (.cst (.int 1)) (.bin .add (.bor 3) (.cst (.int 1)))) (.cons (.set 4 (.bin .add (.bin .mul (.cst (.int 9413)) (.bor 3)) (.cst (.int 1567)))) (.cons (.iff (.cmp .ne (.idx (.bor 0) (.cst (.int 0))) (.lst .nil)) (.cons (.set 4 (.idx (.idx (.bor 0) (.cst (.int 0))) (.bin .mod (.bif .int (.cons (.bor 3) .nil)) (.bif .len (.cons (.idx (.bor 0) (.cst (.int 0))) .nil))))) .nil) .nil) (.cons (.iff (.and (.cmp .lt (.bor 3) (.bif .len (.cons (.idx (.bor 0) (.cst (.int 0))) .nil))) (.cmp .ge (.bif .abs (.cons (.bor 4) .nil)) (.bin .pow (.cst (.int 10)) (.cst (.int 18))))) (.cons (.set 5 (.bin .add (.bin .mul (.cst (.int 2)) (.bin .sub (.bif .abs (.cons (.bor 4) .nil)) (.bin .pow (.cst (.int 10)) (.cst (.int 18))))) (.bif .int (.cons (.cmp .lt (.bor 4) (.cst (.int 0))) .nil)))) (.cons (.sub 0 (.cst (.int 2)) (.bin .fdiv (.bif .int (.cons (.bor 5) .nil)) (.bor 1))) (.cons (.ret (.bin .mod (.bif .int (.cons (.bor 5) .nil)) (.bor 1))) .nil))) .nil) (.cons (.set 6 (.bin .mod (.bif .int (.cons (.bin .pow (.bin .add (.bin .add (.bin .mod (.bif .int (.cons (.bor 4) .nil)) (.cst (.int 2147483549))) (.bin .mul (.cst (.int 9413)) (.bor 3))) (.cst (.int 1567))) (.cst (.int 5))) .nil)) (.cst (.int 2147483629)))) (.cons (.set 6 (.bin .mod (.bif .int (.cons (.bin .pow (.bin .add (.bin .add (.bin .mul (.bor 6) (.bin .add (.bin .mul (.cst (.int 2)) (.bor 3)) (.cst (.int 673)))) (.bin .mul (.bin .mul (.cst (.int 9697)) (.bor 3)) (.bor 3))) (.cst (.int 1567))) (.cst (.int 3))) .nil)) (.cst (.int 2147483587)))) (.cons (.ret (.bin .mod (.bif .int (.cons (.bin .fdiv (.bor 6) (.cst (.int 64))) .nil)) (.bor 1))) .nil)))))))))
def b21 : Stts := (.cons (.ret (.idx (.bor 1) (.call 20 (.cons (.var 0) (.cons (.bif .len (.cons (.bor 1) .nil)) .nil)) .nil [.p 0, .p 1]))) .nil)
def b22 : Stts := (.cons (.ret (.ite (.cmp .le (.bor 2) (.bif .len (.cons (.bor 0) .nil))) (.idx (.bor 0) (.bin .sub (.bor 2) (.cst (.int 1)))) (.idx (.bor 1) (.bin .mod (.bif .int (.cons (.bin .sub (.bin .sub (.bor 2) (.bif .len (.cons (.bor 0) .nil))) (.cst (.int 1))) .nil)) (.bif .len (.cons (.bor 1) .nil)))))) .nil)
def b23 : Stts := (.cons (.par 3 4 (.bif .list (.cons (.bor 1) .nil)) (.lst .nil) true true) (.cons (.for_ (.nm 5) (.rng1 (.call 20 (.cons (.var 0) (.cons (.bin .add (.bor 2) (.cst (.int 1))) .nil)) .nil [.p 0, .p 1])) (.cons (.appop 4 3 (.call 20 (.cons (.var 0) (.cons (.bif .len (.cons (.bor 3) .nil)) .nil)) .nil [.p 0, .p 1])) .nil)) (.cons (.ret (.bif .tuple (.cons (.bif .sorted (.cons (.bor 4) .nil)) .nil))) .nil)))
def b24 : Stts := (.cons (.ret (.lc (.ite (.cmp .gt (.call 20 (.cons (.var 0) (.cons (.cst (.int 3)) .nil)) .nil [.p 0, .p 1]) (.cst (.int 0))) (.call 23 (.cons (.var 0) (.cons (.var 1) (.cons (.bif .len (.cons (.bor 1) .nil)) .nil))) .nil [.p 0, .p 1, .p 2]) (.tup .nil)) (.nm 3) (.rng1 (.call 20 (.cons (.var 0) (.cons (.bin .add (.bor 2) (.cst (.int 1))) .nil)) .nil [.p 0, .p 1])) .none [3])) .nil)
def b25 : Stts := (.cons (.set 2 (.bin .add (.call 24 (.cons (.var 0) (.cons (.var 1) (.cons (.cst (.int 4)) .nil))) .nil [.p 0, .p 1, .p 2]) (.lst (.cons (.ite (.cmp .gt (.call 20 (.cons (.var 0) (.cons (.cst (.int 3)) .nil)) .nil [.p 0, .p 1]) (.cst (.int 0))) (.bif .tuple (.cons (.bor 1) .nil)) (.call 23 (.cons (.var 0) (.cons (.var 1) (.cons (.bif .len (.cons (.bor 1) .nil)) .nil))) .nil [.p 0, .p 1, .p 2])) .nil)))) (.cons (.ret (.tup (.cons (.call 24 (.cons (.var 0) (.cons (.var 1) (.cons (.cst (.int 3)) .nil))) .nil [.p 0, .p 1, .p 2]) (.cons (.var 2) .nil)))) .nil))
def b26 : Stts := (.cons (.for_ (.nm 4) (.rng2 (.cst (.int 1)) (.bin .add (.bin .add (.bif .max (.cons (.bif .len (.cons (.bor 0) .nil)) (.cons (.bif .len (.cons (.bor 2) .nil)) .nil))) (.bin .mul (.bif .len (.cons (.bor 1) .nil)) (.bif .len (.cons (.bor 3) .nil)))) (.cst (.int 1)))) (.cons (.iff (.cmp .ne (.call 22 (.cons (.var 0) (.cons (.var 1) (.cons (.var 4) .nil))) .nil [.p 0, .p 1, .p 2]) (.call 22 (.cons (.var 2) (.cons (.var 3) (.cons (.var 4) .nil))) .nil [.p 0, .p 1, .p 2])) (.cons (.ret (.cst (.bl false))) .nil) .nil) .nil)) (.cons (.ret (.cst (.bl true))) .nil))
def b27 : Stts := (.cons (.for_ (.nm 2) (.rng2 (.cst (.int 1)) (.bin .add (.bif .len (.cons (.bor 1) .nil)) (.cst (.int 1)))) (.cons (.for_ (.nm 3) (.rng1 (.bin .add (.bin .add (.bif .len (.cons (.bor 0) .nil)) (.bif .len (.cons (.bor 1) .nil))) (.cst (.int 1)))) (.cons (.set 4 (.lc (.call 22 (.cons (.var 0) (.cons (.var 1) (.cons (.var 6) .nil))) .nil [.p 0, .p 1, .p 2]) (.nm 6) (.rng2 (.cst (.int 1)) (.bin .add (.bor 3) (.cst (.int 1)))) .none [6])) (.cons (.set 5 (.lc (.call 22 (.cons (.var 0) (.cons (.var 1) (.cons (.var 6) .nil))) .nil [.p 0, .p 1, .p 2]) (.nm 6) (.rng2 (.bin .add (.bor 3) (.cst (.int 1))) (.bin .add (.bin .add (.bor 3) (.bor 2)) (.cst (.int 1)))) .none [6])) (.cons (.iff (.call 26 (.cons (.var 0) (.cons (.var 1) (.cons (.var 4) (.cons (.var 5) .nil)))) .nil [.p 0, .p 1, .p 2, .p 3]) (.cons (.ret (.tup (.cons (.var 4) (.cons (.var 5) .nil)))) .nil) .nil) .nil)))) .nil)) (.cons (.ret (.tup (.cons (.var 0) (.cons (.var 1) .nil)))) .nil))
def b28 : Stts := (.cons (.set 1 (.call 19 (.cons (.var 0) .nil) .nil [.p 0])) (.cons (.for_ (.nm 2) (.rng1 (.cst (.int 5))) (.cons (.set 3 (.call 21 (.cons (.var 1) (.cons (.lst (.cons (.lst (.cons (.cst (.str "a")) (.cons (.cst (.str "b")) .nil))) (.cons (.lst (.cons (.cst (.str "a")) .nil)) (.cons (.lst (.cons (.cst (.str "a")) (.cons (.cst (.str "b")) .nil))) .nil)))) .nil)) .nil [.p 0, .p 1])) (.cons (.unp (.tp [10, 11]) (.call 25 (.cons (.var 1) (.cons (.var 3) .nil)) .nil [.p 0, .p 1])) (.cons (.iff (.cmp .eq (.call 20 (.cons (.var 1) (.cons (.cst (.int 2)) .nil)) .nil [.p 0, .p 1]) (.cst (.int 0))) (.cons (.set 12 (.bin .add (.cst (.int 1)) (.call 20 (.cons (.var 1) (.cons (.cst (.int 3)) .nil)) .nil [.p 0, .p 1]))) (.cons (.unp (.tp [10, 11]) (.tup (.cons (.bin .add (.bor 10) (.slc (.bor 11) .none (.some (.cst (.int 1))))) (.cons (.bin .mul (.bin .add (.slc (.bor 11) (.some (.cst (.int 1))) .none) (.slc (.bor 11) .none (.some (.cst (.int 1))))) (.bor 12)) .nil)))) .nil)) .nil) (.cons (.set 4 (.make 0 (.cons (.var 10) (.cons (.var 11) .nil)) .nil [.p 0, .p 1])) (.cons (.for_ (.nm 5) (.val (.lst (.cons (.bin .add (.cst (.int 1)) (.call 20 (.cons (.var 1) (.cons (.cst (.int 12)) .nil)) .nil [.p 0, .p 1])) (.cons (.bin .add (.cst (.int 1)) (.call 20 (.cons (.var 1) (.cons (.cst (.int 1000)) .nil)) .nil [.p 0, .p 1])) (.cons (.bin .sub (.bin .pow (.cst (.int 10)) (.cst (.int 30))) (.call 20 (.cons (.var 1) (.cons (.cst (.int 40)) .nil)) .nil [.p 0, .p 1])) (.cons (.cst (.int 1)) (.cons (.bin .add (.bif .len (.cons (.bor 10) .nil)) (.cst (.int 1))) (.cons (.bin .add (.bif .len (.cons (.bor 10) .nil)) (.bif .len (.cons (.bor 11) .nil))) .nil)))))))) (.cons (.iff (.cmp .ne (.bif .repr (.cons (.meth (.var 4) "day_at" .nil (.cons (.var 5) .nil) [.k 0]) .nil)) (.bif .repr (.cons (.call 22 (.cons (.var 10) (.cons (.var 11) (.cons (.var 5) .nil))) .nil [.p 0, .p 1, .p 2]) .nil))) (.cons (.ret (.cst (.bl false))) .nil) .nil) .nil)) (.cons (.for_ (.nm 6) (.val (.lst (.cons (.call 20 (.cons (.var 1) (.cons (.cst (.int 9)) .nil)) .nil [.p 0, .p 1]) (.cons (.call 20 (.cons (.var 1) (.cons (.cst (.int 1000)) .nil)) .nil [.p 0, .p 1]) (.cons (.bin .add (.bin .pow (.cst (.int 10)) (.cst (.int 29))) (.call 20 (.cons (.var 1) (.cons (.cst (.int 99)) .nil)) .nil [.p 0, .p 1])) (.cons (.cst (.int 0)) .nil)))))) (.cons (.set 13 (.meth (.var 4) "shifted" (.cons (.var 6) .nil) .nil [.p 0])) (.cons (.iff (.or (.cmp .gt (.bif .len (.cons (.atO 13 "begin") .nil)) (.bif .len (.cons (.bor 10) .nil))) (.cmp .ne (.bif .len (.cons (.atO 13 "lap") .nil)) (.bif .len (.cons (.bor 11) .nil)))) (.cons (.ret (.cst (.bl false))) .nil) .nil) (.cons (.for_ (.nm 5) (.rng2 (.cst (.int 1)) (.cst (.int 12))) (.cons (.iff (.cmp .ne (.meth (.var 13) "day_at" (.cons (.var 5) .nil) .nil [.p 0]) (.call 22 (.cons (.var 10) (.cons (.var 11) (.cons (.bin .add (.bor 5) (.bor 6)) .nil))) .nil [.p 0, .p 1, .p 2])) (.cons (.ret (.cst (.bl false))) .nil) .nil) .nil)) .nil)))) (.cons (.unp (.tp [14, 15]) (.call 27 (.cons (.var 10) (.cons (.var 11) .nil)) .nil [.p 0, .p 1])) (.cons (.set 7 (.meth (.var 4) "shortest" .nil .nil [])) (.cons (.iff (.or (.cmp .ne (.bif .repr (.cons (.tup (.cons (.atO 7 "begin") (.cons (.atO 7 "lap") .nil))) .nil)) (.bif .repr (.cons (.tup (.cons (.bif .tuple (.cons (.bor 14) .nil)) (.cons (.bif .tuple (.cons (.bor 15) .nil)) .nil))) .nil))) (.cmp .ne (.meth (.var 4) "shifted" .nil (.cons (.cst (.int 0)) .nil) [.k 0]) (.bor 4))) (.cons (.ret (.cst (.bl false))) .nil) .nil) (.cons (.set 8 (.ite (.cmp .eq (.call 20 (.cons (.var 1) (.cons (.cst (.int 2)) .nil)) .nil [.p 0, .p 1]) (.cst (.int 0))) (.call 25 (.cons (.var 1) (.cons (.var 3) .nil)) .nil [.p 0, .p 1]) (.tup (.cons (.var 14) (.cons (.bin .mul (.bor 15) (.cst (.int 2))) .nil))))) (.cons (.set 9 (.lc (.var 5) (.nm 5) (.rng2 (.cst (.int 1)) (.cst (.int 60))) (.some (.cmp .ne (.call 22 (.cons (.var 10) (.cons (.var 11) (.cons (.var 5) .nil))) .nil [.p 0, .p 1, .p 2]) (.call 22 (.cons (.idx (.bor 8) (.cst (.int 0))) (.cons (.idx (.bor 8) (.cst (.int 1))) (.cons (.var 5) .nil))) .nil [.p 0, .p 1, .p 2]))) [5])) (.cons (.iff (.cmp .ne (.bif .repr (.cons (.call 18 (.cons (.var 4) (.cons (.make 0 (.cons (.idx (.bor 8) (.cst (.int 0))) (.cons (.idx (.bor 8) (.cst (.int 1))) .nil)) .nil [.p 0, .p 1]) .nil)) .nil [.p 0, .p 1]) .nil)) (.bif .repr (.cons (.ite (.cmp .ne (.bor 9) (.lst .nil)) (.idx (.bor 9) (.cst (.int 0))) (.cst .non)) .nil))) (.cons (.ret (.cst (.bl false))) .nil) .nil) (.cons (.iff (.cmp .notn (.call 18 .nil (.cons (.var 7) (.cons (.var 4) .nil)) [.k 1, .k 0]) (.cst .non)) (.cons (.ret (.cst (.bl false))) .nil) .nil) .nil)))))))))))))) (.cons (.ret (.cst (.bl true))) .nil)))
theorem eb0 : prog.body t0 = some b0 := by kernel_rfl
theorem eb1 : prog.body t1 = some b1 := by kernel_rfl
theorem eb2 : prog.body t2 = some b2 := by kernel_rfl
theorem eb3 : prog.body t3 = some b3 := by kernel_rfl
theorem eb4 : prog.body t4 = some b4 := by kernel_rfl
theorem eb5 : prog.body t5 = some b5 := by kernel_rfl
theorem eb6 : prog.body t6 = some b6 := by kernel_rfl
theorem eb7 : prog.body t7 = some b7 := by kernel_rfl
theorem eb8 : prog.body t8 = some b8 := by kernel_rfl
theorem eb9 : prog.body t9 = some b9 := by kernel_rfl
theorem eb10 : prog.body t10 = some b10 := by kernel_rfl
theorem eb11 : prog.body t11 = some b11 := by kernel_rfl
theorem eb12 : prog.body t12 = some b12 := by kernel_rfl
theorem eb13 : prog.body t13 = some b13 := by kernel_rfl
theorem eb14 : prog.body t14 = some b14 := by kernel_rfl
theorem eb15 : prog.body t15 = some b15 := by kernel_rfl
theorem eb16 : prog.body t16 = some b16 := by kernel_rfl
theorem eb17 : prog.body t17 = some b17 := by kernel_rfl
theorem eb18 : prog.body t18 = some b18 := by kernel_rfl
theorem eb19 : prog.body t19 = some b19 := by kernel_rfl
theorem eb20 : prog.body t20 = some b20 := by kernel_rfl
theorem eb21 : prog.body t21 = some b21 := by kernel_rfl
theorem eb22 : prog.body t22 = some b22 := by kernel_rfl
theorem eb23 : prog.body t23 = some b23 := by kernel_rfl
theorem eb24 : prog.body t24 = some b24 := by kernel_rfl
theorem eb25 : prog.body t25 = some b25 := by kernel_rfl
theorem eb26 : prog.body t26 = some b26 := by kernel_rfl
theorem eb27 : prog.body t27 = some b27 := by kernel_rfl
theorem eb28 : prog.body t28 = some b28 := by kernel_rfl
def fn : List FnD := [⟨"is_integer", 1, 1, b0⟩, ⟨"is_listed", 1, 1, b1⟩, ⟨"is_name", 1, 2, b2⟩, ⟨"need_integer", 4, 4, b3⟩, ⟨"is_rising", 1, 3, b4⟩, ⟨"is_lot", 1, 2, b5⟩, ⟨"__init__", 3, 3, b6⟩, ⟨"__eq__", 2, 2, b7⟩, ⟨"day_at", 2, 2, b8⟩, ⟨"shifted", 2, 2, b9⟩, ⟨"shortest", 1, 1, b10⟩, ⟨"need_days", 2, 3, b11⟩, ⟨"need_calendar", 2, 2, b12⟩, ⟨"lot_at", 2, 3, b13⟩, ⟨"shifted_by", 2, 3, b14⟩, ⟨"shortest_of", 2, 3, b15⟩, ⟨"shared_length", 2, 4, b16⟩, ⟨"common_days", 2, 2, b17⟩, ⟨"first_unlike", 2, 3, b18⟩, ⟨"_law_pen", 1, 2, b19⟩, ⟨"_law_draw", 2, 7, b20⟩, ⟨"_law_pick", 2, 2, b21⟩, ⟨"_law_lot_at", 3, 3, b22⟩, ⟨"_law_some", 3, 6, b23⟩, ⟨"_law_days", 3, 4, b24⟩, ⟨"_law_calendar", 2, 3, b25⟩, ⟨"_law_same", 4, 5, b26⟩, ⟨"_law_least", 2, 7, b27⟩, ⟨"law", 1, 16, b28⟩]
def pg : Pg := ⟨fn, clsL, 1000000⟩
theorem epg : prog.pg = pg := by kernel_rfl
end K51

set_option Elab.async false
set_option linter.all false
set_option maxRecDepth 100000
set_option maxHeartbeats 0
namespace K51
open PySem PySem.Spec PyProof.Rows L2 PF
theorem shapes : Shapes prog := by
  refine ⟨?_, ?_, ?_, ?_⟩
  · refine all_cons ?_ ( all_cons ?_ ( all_cons ?_ ( all_cons ?_ ( all_cons ?_ ( all_cons ?_ ( all_cons ?_ ( all_cons ?_ ( all_cons ?_ ( all_cons ?_ ( all_cons ?_ ( all_cons ?_ ( all_cons ?_ ( all_cons ?_ ( all_cons ?_ ( all_cons ?_ ( all_cons ?_ ( all_cons ?_ ( all_cons ?_ ( all_cons ?_ ( all_cons ?_ ( all_cons ?_ ( all_cons ?_ ( all_cons ?_ (fun _ z => nomatch z))))))))))))))))))))))))
    · exact ⟨t12, rfl, rfl, by decide +kernel, (fun T kV doc pm an cdv ct us its ws h1 h2 h3 => match us, its, ws, h1, h2, h3 with | [_, _], [_], [], _, _, _ => ⟨fun z => (by cases z), fun _ => ⟨_, rfl, rfl⟩⟩)⟩
    · exact ⟨t19, rfl, rfl, by decide +kernel, (fun T kV doc pm an cdv ct us its ws h1 h2 h3 => match us, its, ws, h1, h2, h3 with | [_], [], [], _, _, _ => ⟨fun _ => rfl, fun z => absurd rfl z⟩)⟩
    · exact ⟨t1, rfl, rfl, by decide +kernel, (fun T kV doc pm an cdv ct us its ws h1 h2 h3 => match us, its, ws, h1, h2, h3 with | [_], [], [], _, _, _ => ⟨fun _ => rfl, fun z => absurd rfl z⟩)⟩
    · exact ⟨t4, rfl, rfl, by decide +kernel, (fun T kV doc pm an cdv ct us its ws h1 h2 h3 => match us, its, ws, h1, h2, h3 with | [_], [], [], _, _, _ => ⟨fun _ => rfl, fun z => absurd rfl z⟩)⟩
    · exact ⟨t11, rfl, rfl, by decide +kernel, (fun T kV doc pm an cdv ct us its ws h1 h2 h3 => match us, its, ws, h1, h2, h3 with | [_, _], [], [], _, _, _ => ⟨fun _ => rfl, fun z => absurd rfl z⟩)⟩
    · exact ⟨t13, rfl, rfl, by decide +kernel, (fun T kV doc pm an cdv ct us its ws h1 h2 h3 => match us, its, ws, h1, h2, h3 with | [_, _], [], [], _, _, _ => ⟨fun _ => rfl, fun z => absurd rfl z⟩)⟩
    · exact ⟨t14, rfl, rfl, by decide +kernel, (fun T kV doc pm an cdv ct us its ws h1 h2 h3 => match us, its, ws, h1, h2, h3 with | [_, _], [], [], _, _, _ => ⟨fun _ => rfl, fun z => absurd rfl z⟩)⟩
    · exact ⟨t15, rfl, rfl, by decide +kernel, (fun T kV doc pm an cdv ct us its ws h1 h2 h3 => match us, its, ws, h1, h2, h3 with | [_, _], [], [], _, _, _ => ⟨fun _ => rfl, fun z => absurd rfl z⟩)⟩
    · exact ⟨t16, rfl, rfl, by decide +kernel, (fun T kV doc pm an cdv ct us its ws h1 h2 h3 => match us, its, ws, h1, h2, h3 with | [_, _], [], [], _, _, _ => ⟨fun _ => rfl, fun z => absurd rfl z⟩)⟩
    · exact ⟨t20, rfl, rfl, by decide +kernel, (fun T kV doc pm an cdv ct us its ws h1 h2 h3 => match us, its, ws, h1, h2, h3 with | [_, _], [], [], _, _, _ => ⟨fun _ => rfl, fun z => absurd rfl z⟩)⟩
    · exact ⟨t24, rfl, rfl, by decide +kernel, (fun T kV doc pm an cdv ct us its ws h1 h2 h3 => match us, its, ws, h1, h2, h3 with | [_, _, _], [], [], _, _, _ => ⟨fun _ => rfl, fun z => absurd rfl z⟩)⟩
    · exact ⟨t21, rfl, rfl, by decide +kernel, (fun T kV doc pm an cdv ct us its ws h1 h2 h3 => match us, its, ws, h1, h2, h3 with | [_, _], [], [], _, _, _ => ⟨fun _ => rfl, fun z => absurd rfl z⟩)⟩
    · exact ⟨t25, rfl, rfl, by decide +kernel, (fun T kV doc pm an cdv ct us its ws h1 h2 h3 => match us, its, ws, h1, h2, h3 with | [_, _], [], [], _, _, _ => ⟨fun _ => rfl, fun z => absurd rfl z⟩)⟩
    · exact ⟨t27, rfl, rfl, by decide +kernel, (fun T kV doc pm an cdv ct us its ws h1 h2 h3 => match us, its, ws, h1, h2, h3 with | [_, _], [], [], _, _, _ => ⟨fun _ => rfl, fun z => absurd rfl z⟩)⟩
    · exact ⟨t0, rfl, rfl, by decide +kernel, (fun T kV doc pm an cdv ct us its ws h1 h2 h3 => match us, its, ws, h1, h2, h3 with | [_], [], [], _, _, _ => ⟨fun _ => rfl, fun z => absurd rfl z⟩)⟩
    · exact ⟨t3, rfl, rfl, by decide +kernel, (fun T kV doc pm an cdv ct us its ws h1 h2 h3 => match us, its, ws, h1, h2, h3 with | [_, _, _, _], [_], [], _, _, _ => ⟨fun z => (by cases z), fun _ => ⟨_, rfl, rfl⟩⟩)⟩
    · exact ⟨t17, rfl, rfl, by decide +kernel, (fun T kV doc pm an cdv ct us its ws h1 h2 h3 => match us, its, ws, h1, h2, h3 with | [_, _], [], [], _, _, _ => ⟨fun _ => rfl, fun z => absurd rfl z⟩)⟩
    · exact ⟨t23, rfl, rfl, by decide +kernel, (fun T kV doc pm an cdv ct us its ws h1 h2 h3 => match us, its, ws, h1, h2, h3 with | [_, _, _], [], [], _, _, _ => ⟨fun _ => rfl, fun z => absurd rfl z⟩)⟩
    · exact ⟨t22, rfl, rfl, by decide +kernel, (fun T kV doc pm an cdv ct us its ws h1 h2 h3 => match us, its, ws, h1, h2, h3 with | [_, _, _], [], [], _, _, _ => ⟨fun _ => rfl, fun z => absurd rfl z⟩)⟩
    · exact ⟨t26, rfl, rfl, by decide +kernel, (fun T kV doc pm an cdv ct us its ws h1 h2 h3 => match us, its, ws, h1, h2, h3 with | [_, _, _, _], [], [], _, _, _ => ⟨fun _ => rfl, fun z => absurd rfl z⟩)⟩
    · exact ⟨t18, rfl, rfl, by decide +kernel, (fun T kV doc pm an cdv ct us its ws h1 h2 h3 => match us, its, ws, h1, h2, h3 with | [], [], [_, _], _, _, _ => ⟨fun _ => rfl, fun z => absurd rfl z⟩)⟩
    · exact ⟨t2, rfl, rfl, by decide +kernel, (fun T kV doc pm an cdv ct us its ws h1 h2 h3 => match us, its, ws, h1, h2, h3 with | [_], [], [], _, _, _ => ⟨fun _ => rfl, fun z => absurd rfl z⟩)⟩
    · exact ⟨t18, rfl, rfl, by decide +kernel, (fun T kV doc pm an cdv ct us its ws h1 h2 h3 => match us, its, ws, h1, h2, h3 with | [_, _], [], [], _, _, _ => ⟨fun _ => rfl, fun z => absurd rfl z⟩)⟩
    · exact ⟨t5, rfl, rfl, by decide +kernel, (fun T kV doc pm an cdv ct us its ws h1 h2 h3 => match us, its, ws, h1, h2, h3 with | [_], [], [], _, _, _ => ⟨fun _ => rfl, fun z => absurd rfl z⟩)⟩
  · refine all_cons ?_ (fun _ z => nomatch z)
    · exact ⟨_, t6, rfl, rfl, rfl, by decide +kernel, (fun T kV doc pm an cdv ct us its ws h1 h2 h3 => match us, its, ws, h1, h2, h3 with | [_, _, _], [], [], _, _, _ => ⟨fun _ => rfl, fun z => absurd rfl z⟩)⟩
  · refine all_cons ?_ ( all_cons ?_ ( all_cons ?_ ( all_cons ?_ ( all_cons ?_ ( all_cons ?_ (fun _ z => nomatch z))))))
    · exact all_cons (fun f hf => by cases (show some 10 = some f from (by kernel_rfl : some 10 = _).trans hf); exact ⟨t10, rfl, rfl, by decide +kernel, (fun T kV doc pm an cdv ct us its ws h1 h2 h3 => match us, its, ws, h1, h2, h3 with | [_], [], [], _, _, _ => ⟨fun _ => rfl, fun z => absurd rfl z⟩)⟩) (fun _ z => nomatch z)
    · exact all_cons (fun f hf => by cases (show some 9 = some f from (by kernel_rfl : some 9 = _).trans hf); exact ⟨t9, rfl, rfl, by decide +kernel, (fun T kV doc pm an cdv ct us its ws h1 h2 h3 => match us, its, ws, h1, h2, h3 with | [_, _], [], [], _, _, _ => ⟨fun _ => rfl, fun z => absurd rfl z⟩)⟩) (fun _ z => nomatch z)
    · exact all_cons (fun f hf => by cases (show some 9 = some f from (by kernel_rfl : some 9 = _).trans hf); exact ⟨t9, rfl, rfl, by decide +kernel, (fun T kV doc pm an cdv ct us its ws h1 h2 h3 => match us, its, ws, h1, h2, h3 with | [_], [], [_], _, _, _ => ⟨fun _ => rfl, fun z => absurd rfl z⟩)⟩) (fun _ z => nomatch z)
    · exact all_cons (fun f hf => by cases (show some 8 = some f from (by kernel_rfl : some 8 = _).trans hf); exact ⟨t8, rfl, rfl, by decide +kernel, (fun T kV doc pm an cdv ct us its ws h1 h2 h3 => match us, its, ws, h1, h2, h3 with | [_], [], [_], _, _, _ => ⟨fun _ => rfl, fun z => absurd rfl z⟩)⟩) (fun _ z => nomatch z)
    · exact all_cons (fun f hf => by cases (show some 8 = some f from (by kernel_rfl : some 8 = _).trans hf); exact ⟨t8, rfl, rfl, by decide +kernel, (fun T kV doc pm an cdv ct us its ws h1 h2 h3 => match us, its, ws, h1, h2, h3 with | [_, _], [], [], _, _, _ => ⟨fun _ => rfl, fun z => absurd rfl z⟩)⟩) (fun _ z => nomatch z)
    · exact all_cons (fun f hf => by cases (show some 7 = some f from (by kernel_rfl : some 7 = _).trans hf); exact ⟨t7, rfl, rfl, by decide +kernel, (fun T kV doc pm an cdv ct us its ws h1 h2 h3 => match us, its, ws, h1, h2, h3 with | [_, _], [], [], _, _, _ => ⟨fun _ => rfl, fun z => absurd rfl z⟩)⟩) (fun _ z => nomatch z)
  · exact all_cons (fun f hf => by cases (show some 7 = some f from (by kernel_rfl : some 7 = _).trans hf); exact ⟨t7, rfl, rfl, (fun T kV doc pm an cdv ct us its ws h1 h2 h3 => match us, its, ws, h1, h2, h3 with | [_, _], [], [], _, _, _ => ⟨fun _ => rfl, fun z => absurd rfl z⟩)⟩) (fun _ z => nomatch z)
theorem good1 : prog.good = true := by decide +kernel
theorem good2 : prog.good2 = true := by decide +kernel
abbrev R : PySem.W.OpenRow := PySem.W.OpenLaw.row PySem.Challenge.rw_lookingdays_k51_whole_days_of_calendars
def ob (s : PySem.W.SharedT) : He.AlX := He.obsX 6 prog.fa prog.fn [] [] (isiB prog) (HandSHeadRun.getT s)
theorem ob_eq (s : PySem.W.SharedT) : ob s = prog.hk.obs s.abs := He.obsX_eq (HandSHeadRun.getT_eq s)
theorem run (w : World) : HandSHeadRun.RunEq R (PySem.W.view R.prog [lawI]) prog.hk ob 3000 looseN w := by
  intro os
  kernel_rfl
end K51

/-! K51s: rows that begin once and then go round; plain law -/
set_option linter.all false
set_option Elab.async false
namespace K51
section
variable {α : Type}
/-- the i-th of a beginning and a lap that comes round -/
def sq (d : α) (b l : List α) (i : Nat) : α := if i < b.length then b.getD i d else l.getD ((i - b.length) % l.length) d
def per (f : Nat → α) (N p : Nat) : Prop := ∀ i, N ≤ i → f (i + p) = f i
theorem per.mul {f : Nat → α} {N p : Nat} (h : per f N p) : ∀ k, per f N (k * p)
  | 0, i, _ => by rw [Nat.zero_mul, Nat.add_zero]
  | k + 1, i, hi => by
    rw [Nat.succ_mul, ← Nat.add_assoc, h (i + k * p) (by omega), per.mul h k i hi]
theorem per.dvd {f : Nat → α} {N p q : Nat} (h : per f N p) (hd : p ∣ q) : per f N q := by
  obtain ⟨k, rfl⟩ := hd
  rw [Nat.mul_comm]
  exact h.mul k
theorem per.up {f : Nat → α} {N M p : Nat} (h : per f N p) (hm : N ≤ M) : per f M p := fun i hi => h i (by omega)
theorem per.ext {f g : Nat → α} {N c : Nat} (hc : 0 < c) (hf : per f N c) (hg : per g N c) (h : ∀ i, i < N + c → f i = g i) (i : Nat) : f i = g i := by
  induction i using Nat.strongRecOn with
  | _ i ih =>
    by_cases hi : i < N + c
    · exact h i hi
    · have e : i = i - c + c := by omega
      rw [e, hf (i - c) (by omega), hg (i - c) (by omega)]
      exact ih _ (by omega)
theorem sq_lt {d : α} {b l : List α} {i : Nat} (h : i < b.length) : sq d b l i = b.getD i d := if_pos h
theorem sq_ge {d : α} {b l : List α} {i : Nat} (h : b.length ≤ i) : sq d b l i = l.getD ((i - b.length) % l.length) d := if_neg (by omega)
theorem sq_per (d : α) (b l : List α) : per (sq d b l) b.length l.length := fun i hi => by
  rw [sq_ge hi, sq_ge (by omega), show i + l.length - b.length = i - b.length + l.length by omega, Nat.add_mod_right]
theorem sq_lap {d : α} {b l : List α} {i : Nat} (h : i < l.length) : sq d b l (b.length + i) = l.getD i d := by
  rw [sq_ge (by omega), show b.length + i - b.length = i by omega, Nat.mod_eq_of_lt h]
theorem getD_ext {d : α} {l m : List α} (h1 : l.length = m.length) (h2 : ∀ i, i < l.length → l.getD i d = m.getD i d) : l = m := by
  refine List.ext_getElem h1 fun i h3 h4 => ?_
  have := h2 i h3
  rw [List.getD_eq_getElem?_getD, List.getD_eq_getElem?_getD, List.getElem?_eq_getElem h3, List.getElem?_eq_getElem h4] at this
  exact this
/-- told by its lengths -/
theorem sq_inj {d : α} {b l b' l' : List α} (h1 : b.length = b'.length) (h2 : l.length = l'.length) (h : ∀ i, sq d b l i = sq d b' l' i) : b = b' ∧ l = l' := by
  refine ⟨getD_ext (d := d) h1 fun i hi => ?_, getD_ext (d := d) h2 fun i hi => ?_⟩
  · have := h i
    rw [sq_lt hi, sq_lt (by omega)] at this
    exact this
  · have := h (b.length + i)
    rw [sq_lap hi, h1, sq_lap (by omega)] at this
    exact this
theorem getD_map_range {d : α} {f : Nat → α} {n i : Nat} (h : i < n) : ((List.range n).map f).getD i d = f i := by
  rw [List.getD_eq_getElem?_getD, List.getElem?_map, List.getElem?_range h]; rfl
/-- any row that comes round is one of these -/
theorem sq_of {d : α} {f : Nat → α} {N p : Nat} (hp : 0 < p) (h : per f N p) (i : Nat) : sq d ((List.range N).map f) ((List.range p).map fun j => f (N + j)) i = f i := by
  refine per.ext (N := N) (c := p) hp ?_ h (fun i hi => ?_) i
  · have := sq_per d ((List.range N).map f) ((List.range p).map fun j => f (N + j))
    rw [List.length_map, List.length_map, List.length_range, List.length_range] at this
    exact this
  · by_cases hn : i < N
    · rw [sq_lt (by rw [List.length_map, List.length_range]; exact hn), getD_map_range hn]
    · rw [sq_ge (by rw [List.length_map, List.length_range]; omega), List.length_map, List.length_map, List.length_range, List.length_range, Nat.mod_eq_of_lt (by omega), getD_map_range (by omega), show N + (i - N) = i by omega]
/-- a period of the end is one from where the lap begins -/
theorem per_down {f : Nat → α} {N M p L : Nat} (hL : 0 < L) (h : per f N L) (hp : per f M p) : per f N p := fun i hi => by
  have k := h.mul M
  have e1 := k (i + p) (by omega)
  have e2 := k i hi
  have e3 := hp (i + M * L) (by have : M ≤ M * L := Nat.le_mul_of_pos_right _ hL; omega)
  rw [← e1, ← e2, show i + p + M * L = i + M * L + p by omega]
  exact e3
/-- what is least -/
structure Least (d : α) (f : Nat → α) (b l : List α) : Prop where
  pos : 0 < l.length
  eq : ∀ i, sq d b l i = f i
  lap : ∀ N p, 0 < p → per f N p → l.length ≤ p
  beg : ∀ N, per f N l.length → b.length ≤ N
theorem Least.uniq {d : α} {f : Nat → α} {b l b' l' : List α} (h : Least d f b l) (h' : Least d f b' l') : b = b' ∧ l = l' := by
  have k : per f b.length l.length := by
    have := sq_per d b l
    intro i hi
    rw [← h.eq, ← h.eq]; exact this i hi
  have k' : per f b'.length l'.length := by
    have := sq_per d b' l'
    intro i hi
    rw [← h'.eq, ← h'.eq]; exact this i hi
  have e : l.length = l'.length := Nat.le_antisymm (h.lap _ _ h'.pos k') (h'.lap _ _ h.pos k)
  refine sq_inj (Nat.le_antisymm (h.beg _ (by rw [e]; exact k')) (h'.beg _ (by rw [← e]; exact k))) e fun i => by rw [h.eq, h'.eq]
/-- the least divisor of L that is a period is the least period -/
theorem least_div {f : Nat → α} {N L m : Nat} (hL : 0 < L) (hf : per f N L) (h : ∀ q, 0 < q → q < m → q ∣ L → per f N q → False) (hm : m ∣ L) : ∀ M p, 0 < p → per f M p → m ≤ p := by
  have key : ∀ p, 0 < p → per f N p → m ≤ p := by
    intro p
    induction p using Nat.strongRecOn with
    | _ p ih =>
      intro hp hper
      by_cases hd : p ∣ L
      · by_cases hlt : p < m
        · exact (h p hp hlt hd hper).elim
        · omega
      · have hr : 0 < L % p := Nat.pos_of_ne_zero fun z => hd (Nat.dvd_of_mod_eq_zero z)
        have hr2 : L % p < p := Nat.mod_lt _ hp
        have : per f N (L % p) := fun i hi => by
          have e1 := (hper.mul (L / p)) (i + L % p) (by omega)
          have e2 := hf i hi
          have e3 := Nat.mod_add_div L p
          rw [Nat.mul_comm] at e3
          rw [← e1, Nat.add_assoc, e3, e2]
        have := ih _ hr2 hr this
        omega
  exact fun M p hp hper => key p hp (per_down hL hf hper)
/-! the lap cut down to its part -/
theorem rep_getD {d : α} {t : List α} : ∀ {k i : Nat}, i < k * t.length → ((List.replicate k t).flatten).getD i d = t.getD (i % t.length) d
  | 0, i, h => by rw [Nat.zero_mul] at h; omega
  | k + 1, i, h => by
    rw [List.replicate_succ, List.flatten_cons, List.getD_eq_getElem?_getD]
    by_cases hi : i < t.length
    · rw [List.getElem?_append_left hi, Nat.mod_eq_of_lt hi, ← List.getD_eq_getElem?_getD]
    · rw [List.getElem?_append_right (by omega), ← List.getD_eq_getElem?_getD, rep_getD (by rw [Nat.succ_mul] at h; omega), ← Nat.mod_eq_sub_mod (by omega)]
theorem rep_len {t : List α} {k : Nat} : ((List.replicate k t).flatten).length = k * t.length := by
  rw [List.length_flatten, List.map_replicate, List.sum_replicate_nat]
theorem getD_take {d : α} {l : List α} {q i : Nat} (h : i < q) : (l.take q).getD i d = l.getD i d := by
  rw [List.getD_eq_getElem?_getD, List.getElem?_take_of_lt h, List.getD_eq_getElem?_getD]
theorem part_iff {d : α} {b l : List α} {q : Nat} (hq : 0 < q) (hd : q ∣ l.length) (hl : 0 < l.length) : l = (List.replicate (l.length / q) (l.take q)).flatten ↔ per (sq d b l) b.length q := by
  have hle := Nat.le_of_dvd hl hd
  have ht : (l.take q).length = q := by rw [List.length_take]; omega
  have hm : l.length / q * q = l.length := Nat.div_mul_cancel hd
  constructor
  · intro e i hi
    have g : ∀ j, j < l.length → l.getD j d = l.getD (j % q) d := fun j hj => by
      have := congrArg (fun z => List.getD z j d) e
      rw [rep_getD (by rw [ht, hm]; exact hj), ht, getD_take (Nat.mod_lt _ hq)] at this
      exact this
    rw [sq_ge hi, sq_ge (by omega), g _ (Nat.mod_lt _ hl), g ((i - b.length) % l.length) (Nat.mod_lt _ hl), Nat.mod_mod_of_dvd _ hd, Nat.mod_mod_of_dvd _ hd, show i + q - b.length = i - b.length + q by omega, Nat.add_mod_right]
  · intro h
    refine getD_ext (d := d) (by rw [rep_len, ht, hm]) fun i hi => ?_
    rw [rep_getD (by rw [ht, hm]; exact hi), ht, getD_take (Nat.mod_lt _ hq)]
    have e1 := sq_lap (d := d) (b := b) hi
    have e2 := sq_lap (d := d) (b := b) (l := l) (i := i % q) (by have := Nat.mod_le i q; omega)
    have e3 := h.mul (i / q) (b.length + i % q) (by omega)
    have e4 := Nat.mod_add_div i q
    rw [Nat.mul_comm] at e4
    rw [Nat.add_assoc, e4] at e3
    rw [← e1, ← e2, e3]
theorem part_sq {d : α} {b l : List α} {q : Nat} (hq : 0 < q) (hd : q ∣ l.length) (hl : 0 < l.length) (h : per (sq d b l) b.length q) (i : Nat) : sq d b (l.take q) i = sq d b l i := by
  have hle := Nat.le_of_dvd hl hd
  have ht : (l.take q).length = q := by rw [List.length_take]; omega
  refine per.ext (N := b.length) (c := q) hq (by have := sq_per d b (l.take q); rw [ht] at this; exact this) h (fun i hi => ?_) i
  by_cases hb : i < b.length
  · rw [sq_lt hb, sq_lt hb]
  · rw [sq_ge (by omega), sq_ge (by omega), ht, Nat.mod_eq_of_lt (by omega), Nat.mod_eq_of_lt (by omega), getD_take (by omega)]
/-- one day of the beginning given to the lap -/
theorem sq_rot {d : α} {b l : List α} (hl : 0 < l.length) (hb : 0 < b.length) (e : b.getD (b.length - 1) d = l.getD (l.length - 1) d) (i : Nat) : sq d (b.take (b.length - 1)) (l.drop (l.length - 1) ++ l.take (l.length - 1)) i = sq d b l i := by
  have ht : (b.take (b.length - 1)).length = b.length - 1 := by rw [List.length_take]; omega
  have hr : (l.drop (l.length - 1) ++ l.take (l.length - 1)).length = l.length := by rw [List.length_append, List.length_drop, List.length_take]; omega
  refine per.ext (N := b.length) (c := l.length) hl ?_ (sq_per d b l) (fun i hi => ?_) i
  · have := sq_per d (b.take (b.length - 1)) (l.drop (l.length - 1) ++ l.take (l.length - 1))
    rw [ht, hr] at this
    exact this.up (by omega)
  · by_cases h1 : i < b.length - 1
    · rw [sq_lt (by omega), sq_lt (by omega), getD_take h1]
    · rw [sq_ge (by omega), ht, hr]
      by_cases h2 : i = b.length - 1
      · subst h2
        rw [sq_lt (by omega), Nat.sub_self, Nat.zero_mod, List.getD_eq_getElem?_getD, List.getElem?_append_left (by rw [List.length_drop]; omega), List.getElem?_drop, Nat.add_zero, ← List.getD_eq_getElem?_getD, e]
      · rw [sq_ge (by omega)]
        by_cases h3 : i - (b.length - 1) < l.length
        · rw [Nat.mod_eq_of_lt h3, Nat.mod_eq_of_lt (by omega), List.getD_eq_getElem?_getD, List.getElem?_append_right (by rw [List.length_drop]; omega), List.length_drop, List.getElem?_take_of_lt (by omega), ← List.getD_eq_getElem?_getD]
          congr 1
          omega
        · rw [show i - (b.length - 1) = l.length by omega, Nat.mod_self, Nat.mod_eq_of_lt (by omega), List.getD_eq_getElem?_getD, List.getElem?_append_left (by rw [List.length_drop]; omega), List.getElem?_drop, Nat.add_zero, ← List.getD_eq_getElem?_getD]
          congr 1
          omega
theorem least_of {d : α} {f : Nat → α} {b l : List α} (hl : 0 < l.length) (he : ∀ i, sq d b l i = f i) (hp : ∀ N p, 0 < p → per f N p → l.length ≤ p) (hb : b.length = 0 ∨ b.getD (b.length - 1) d ≠ l.getD (l.length - 1) d) : Least d f b l := by
  refine ⟨hl, he, hp, fun N h => Nat.le_of_not_lt fun hlt => ?_⟩
  rcases hb with hb | hb
  · omega
  · refine hb ?_
    have := h (b.length - 1) (by omega)
    rw [← he, ← he, sq_lt (i := b.length - 1) (by omega), show b.length - 1 + l.length = b.length + (l.length - 1) by omega, sq_lap (by omega)] at this
    exact this.symm
/-- the lap written m times -/
theorem sq_rep {d : α} {b l : List α} {m : Nat} (hm : 0 < m) (hl : 0 < l.length) (i : Nat) : sq d b (List.replicate m l).flatten i = sq d b l i := by
  by_cases h : i < b.length
  · rw [sq_lt h, sq_lt h]
  · rw [sq_ge (by omega), sq_ge (by omega), rep_len, rep_getD (Nat.mod_lt _ (Nat.mul_pos hm hl)), Nat.mod_mod_of_dvd _ ⟨m, Nat.mul_comm _ _⟩]
/-- one day of the lap given to the beginning -/
theorem sq_one {d : α} {b l : List α} (hl : 0 < l.length) (i : Nat) : sq d (b ++ l.take 1) (l.drop 1 ++ l.take 1) i = sq d b l i := by
  have h1 : (b ++ l.take 1).length = b.length + 1 := by rw [List.length_append, List.length_take]; omega
  have h2 : (l.drop 1 ++ l.take 1).length = l.length := by rw [List.length_append, List.length_drop, List.length_take]; omega
  refine per.ext (N := b.length + 1) (c := l.length) hl ?_ ((sq_per d b l).up (by omega)) (fun i hi => ?_) i
  · have := sq_per d (b ++ l.take 1) (l.drop 1 ++ l.take 1)
    rw [h1, h2] at this
    exact this
  · by_cases h3 : i < b.length
    · rw [sq_lt (by omega), sq_lt h3, List.getD_eq_getElem?_getD, List.getElem?_append_left h3, ← List.getD_eq_getElem?_getD]
    · by_cases h4 : i = b.length
      · subst h4
        rw [sq_lt (by omega), sq_ge (by omega), Nat.sub_self, Nat.zero_mod, List.getD_eq_getElem?_getD, List.getElem?_append_right (by omega), Nat.sub_self, ← List.getD_eq_getElem?_getD, getD_take (by omega)]
      · rw [sq_ge (by omega), sq_ge (by omega), h1, h2, Nat.mod_eq_of_lt (by omega), List.getD_eq_getElem?_getD]
        by_cases h5 : i - b.length < l.length
        · rw [Nat.mod_eq_of_lt h5, List.getElem?_append_left (by rw [List.length_drop]; omega), List.getElem?_drop, ← List.getD_eq_getElem?_getD]
          congr 1
          omega
        · rw [show i - b.length = l.length by omega, Nat.mod_self, List.getElem?_append_right (by rw [List.length_drop]; omega), List.length_drop, List.getElem?_take_of_lt (by omega), ← List.getD_eq_getElem?_getD]
          congr 1
          omega
end
end K51

set_option Elab.async false
set_option linter.all false
set_option maxRecDepth 100000
set_option maxHeartbeats 4000000
namespace K51
open PySem L2 PF PW
local macro_rules | `(tactic| walk_at "lv") => `(tactic| first | with_reducible exact lv_fn | ((with_reducible refine' lv_th ?hl); (case hl => walk_at "lv")) | ((with_reducible refine' lv_lo ?hl); (case hl => walk_at "lv")))
local macro_rules | `(tactic| walk_at "seta") => `(tactic| first | with_reducible exact SetA.z | ((with_reducible refine' SetA.s ?hss); (case hss => walk_at "seta")))
local macro_rules | `(tactic| walk_at "setas") => `(tactic| first | with_reducible exact SetAs.nil | ((with_reducible refine' SetAs.cons ?hsa ?hsb); (case hsa => walk_at "seta"); (case hsb => walk_at "setas")))
local macro_rules | `(tactic| walk_at "wipea") => `(tactic| first | with_reducible exact WipeA.nil | (refine' WipeA.cons ?hwr ?hws; (case hwr => walk_at "wipea"); (case hws => walk_at "seta")))
local macro_rules | `(tactic| walk_at "asg") => `(tactic| first | ((with_reducible refine' asg_nm ?hsa); (case hsa => walk_at "seta")) | ((with_reducible refine' asg_tp ?hsa); (case hsa => walk_at "setas")) | ((with_reducible refine' asg_w ?hw1 ?hw2); (case hw1 => walk_at "wipea"); (case hw2 => walk_at "asg")))
local macro_rules | `(tactic| walk_at "pe") => `(tactic| simp -implicitDefEqProofs (disch := first | omega | with_reducible assumption | (simp only [List.length_map, List.length_append, List.length_cons, List.length_nil, List.length_replicate, List.length_range, List.length_drop, List.length_take]; omega) | exact okNs_ints | ((with_reducible show decide _ = true); decide)) only [PW.w_ret_eq, PW.op_some, PW.op_none, PW.rv_0, PW.rv_s, PW.rb_0, PW.rb_0o, PW.rb_s, PW.ro_0, PW.ro_0o, PW.ro_s, PW.ng_int, PW.bk_bl, PW.ln_ok, PW.iv_lst, PW.iv_tup, PW.iv_str, PW.r1_int, PW.r2_int, PW.zp_lst, PW.en_lst, PW.ti_int, PW.e_cst, PW.e_glb, PW.e_var, PW.e_bor, PW.e_bin, PW.e_neg, PW.e_not, PW.e_and, PW.e_or, PW.e_ite, PW.e_isn, PW.e_notn, PW.e_eq, PW.e_ne, PW.e_lt, PW.e_le, PW.e_gt, PW.e_ge, PW.e_in, PW.e_nin, PW.e_chn, PW.e_tup, PW.e_lst, PW.e_idx, PW.d_lst, PW.d_tup, PW.d_str, PW.d_loc, PW.e_slc, PW.o_none, PW.o_some, PW.e_att, PW.e_atO, PW.e_bif, PW.e_isi, PW.e_call, PW.e_make, PW.e_meth, PW.a_nil, PW.a_cons, PW.t_not, PW.t_and, PW.t_or, PW.tr_bl, PW.tr_int, PW.tr_non, PW.tr_lst, PW.tr_tup, PW.t_cmp, PW.t_chn, PW.t_var, PW.t_bor, PW.t_call, PW.t_meth, PW.t_bif, PW.t_isi, PW.t_idx, PW.t_att, PW.t_atO, PW.t_lc, PW.t_cst, PW.i_val, PW.i_rng1, PW.i_rng2, PW.i_zip, PW.i_enum, PW.e_lc, PW.p_add, PW.p_sub, PW.p_mulR, PW.p_mulL, PW.p_mod, PW.p_div, PW.p_pow, PW.p_catL, PW.p_catT, PW.p_catS, PW.p_rep, PW.c_lt, PW.c_gt, PW.c_le, PW.c_ge, PW.c_ltS, PW.c_eqI, PW.c_neI, PW.c_eqS, PW.c_neS, PW.c_chI, PW.c_chL, PW.c_chS, PW.f_lL, PW.f_lT, PW.f_lS, PW.f_int, PW.f_intB, PW.f_abs, PW.f_tupL, PW.f_tupT, PW.f_lstL, PW.f_lstT, PW.f_max, PW.f_min, PW.f_slcL, PW.f_slcT, PW.s_nil, PW.s_p, PW.s_k, PW.s_d, PW.g_0, PW.g_s, PW.op_bind, PW.x_idxL, PW.x_idxT, PW.x_idxLn, PW.x_idxTn, PW.cut_nn, PW.cut_sn, PW.cut_ns, PW.cut_snN, PW.cut_nsN, PW.pen_get, PW.c_neE, PW.c_eqE, PW.c_neET, PW.c_eqET, PW.x_idxLm, PW.x_idxTm, PW.is_ii, PW.is_ib, PW.is_ss, PW.is_ll, PW.is_lt, PW.is_cc, PW.f_allT, PW.f_sl63, if_true, if_false, Bool.not_true, Bool.not_false, Bool.false_eq_true, decide_eq_true_eq, PF.isNon, Bool.not_eq_true', decide_eq_false_iff_not, reduceIte, List.getD_cons_zero, List.getD_cons_succ, Int.reduceToNat, List.length_cons, List.length_nil, Nat.reduceAdd, Int.cast_ofNat_Int, List.eraseIdx_cons_zero, List.eraseIdx_cons_succ, List.nil_append, List.cons_append, List.append_nil, Bool.true_eq_false, not_true_eq_false, not_false_eq_true])
local macro_rules | `(tactic| walk_at "pd") => `(tactic| simp -implicitDefEqProofs (disch := first | omega | exact ⟨by omega, digest_small (by omega)⟩) only [PW.w_ret_eq, PW.op_some, PW.op_none, PW.rv_0, PW.rv_s, PW.rb_0, PW.rb_0o, PW.rb_s, PW.ro_0, PW.ro_0o, PW.ro_s, PW.ng_int, PW.bk_bl, PW.ln_ok, PW.iv_lst, PW.iv_tup, PW.iv_str, PW.r1_int, PW.r2_int, PW.zp_lst, PW.en_lst, PW.ti_int, PW.e_cst, PW.e_glb, PW.e_var, PW.e_bor, PW.e_bin, PW.e_neg, PW.e_not, PW.e_and, PW.e_or, PW.e_ite, PW.e_isn, PW.e_notn, PW.e_eq, PW.e_ne, PW.e_lt, PW.e_le, PW.e_gt, PW.e_ge, PW.e_in, PW.e_nin, PW.e_chn, PW.e_tup, PW.e_lst, PW.e_idx, PW.d_lst, PW.d_tup, PW.d_str, PW.d_loc, PW.e_slc, PW.o_none, PW.o_some, PW.e_att, PW.e_atO, PW.e_bif, PW.e_isi, PW.e_call, PW.e_make, PW.e_meth, PW.a_nil, PW.a_cons, PW.t_not, PW.t_and, PW.t_or, PW.tr_bl, PW.tr_int, PW.tr_non, PW.tr_lst, PW.tr_tup, PW.t_cmp, PW.t_chn, PW.t_var, PW.t_bor, PW.t_call, PW.t_meth, PW.t_bif, PW.t_isi, PW.t_idx, PW.t_att, PW.t_atO, PW.t_lc, PW.t_cst, PW.i_val, PW.i_rng1, PW.i_rng2, PW.i_zip, PW.i_enum, PW.e_lc, PW.p_add, PW.p_sub, PW.p_mulR, PW.p_mulL, PW.p_mod, PW.p_div, PW.p_pow, PW.p_catL, PW.p_catT, PW.p_catS, PW.p_rep, PW.c_lt, PW.c_gt, PW.c_le, PW.c_ge, PW.c_ltS, PW.c_eqI, PW.c_neI, PW.c_eqS, PW.c_neS, PW.c_chI, PW.c_chL, PW.c_chS, PW.f_lL, PW.f_lT, PW.f_lS, PW.f_int, PW.f_intB, PW.f_abs, PW.f_tupL, PW.f_tupT, PW.f_lstL, PW.f_lstT, PW.f_max, PW.f_min, PW.f_slcL, PW.f_slcT, PW.s_nil, PW.s_p, PW.s_k, PW.s_d, PW.g_0, PW.g_s, PW.op_bind, PW.x_idxL, PW.x_idxT, PW.x_idxLn, PW.x_idxTn, PW.cut_nn, PW.cut_sn, PW.cut_ns, PW.cut_snN, PW.cut_nsN, PW.pen_get, PW.c_neE, PW.c_eqE, PW.c_neET, PW.c_eqET, PW.x_idxLm, PW.x_idxTm, PW.is_ii, PW.is_ib, PW.is_ss, PW.is_ll, PW.is_lt, PW.is_cc, PW.f_allT, PW.f_sl63, if_true, if_false, Bool.not_true, Bool.not_false, Bool.false_eq_true, decide_eq_true_eq, PF.isNon, Bool.not_eq_true', decide_eq_false_iff_not, reduceIte, List.getD_cons_zero, List.getD_cons_succ, Int.reduceToNat, List.length_cons, List.length_nil, Nat.reduceAdd, Int.cast_ofNat_Int, List.eraseIdx_cons_zero, List.eraseIdx_cons_succ, List.nil_append, List.cons_append, List.append_nil, Bool.true_eq_false, not_true_eq_false, not_false_eq_true])
local macro_rules | `(tactic| walk_at "ps") => `(tactic| first
  | with_reducible refine' ws_set ?_ | with_reducible refine' ws_setO ?_ | with_reducible refine' ws_par ?_ | with_reducible refine' ws_unp ?_ | with_reducible refine' ws_exp ?_ | with_reducible refine' ws_pas ?_
  | ((with_reducible refine' ws_ret ?hlv ?_); (case hlv => walk_at "lv"))
  | ((with_reducible refine' ws_retN ?hlv ?_); (case hlv => walk_at "lv"))
  | ((with_reducible refine' ws_retNew ?hlv ?_); (case hlv => walk_at "lv"))
  | with_reducible refine' ws_iff ?_ | with_reducible refine' ws_nilT ?_ | with_reducible refine' ws_nilL ?_ | with_reducible refine' ws_nilF ?_ | with_reducible refine' ws_nilI ?_
  | with_reducible refine' ws_for ?_ | with_reducible refine' ws_whl ?_
  | ((with_reducible refine' ws_frz ?_); simp only [frzE, List.getElem?_cons_zero, List.getElem?_cons_succ, List.set_cons_zero, List.set_cons_succ])
  | with_reducible refine' ws_fld ?_ | with_reducible refine' ws_app ?_ | with_reducible refine' ws_ext ?_ | with_reducible refine' ws_appop ?_ | with_reducible refine' ws_sub ?_ | with_reducible refine' th_nxt ?_ | with_reducible refine' lo_nxt ?_ | with_reducible refine' lo_cnt ?_ | with_reducible refine' lo_brk ?_ | with_reducible refine' th_brk ?_ | with_reducible refine' th_cnt ?_ | with_reducible refine' ws_brk ?_ | with_reducible refine' ws_cnt ?_
  | ((with_reducible show (chkB _ _ = true ∧ _)); refine' ⟨rfl, ?_⟩)
  | ((with_reducible show (∃ kk ρ' S', PV.int _ = PV.int kk ∧ mutL _ _ _ _ = _ ∧ _)); (first | refine' ⟨_, _, _, rfl, pen_put1 rfl, ?_⟩ | refine' ⟨_, _, _, rfl, pen_put2 rfl, ?_⟩))
  | ((with_reducible refine' br_tt ?_)) | ((with_reducible refine' br_ff ?_))
  | ((with_reducible show (∃ ρ', SetA _ _ _ ρ' ∧ _)); refine' ⟨_, ?hsa, ?_⟩; (case hsa => walk_at "seta"))
  | ((with_reducible show (∃ xs ρ', PV.lst _ = PV.lst xs ∧ SetA _ _ _ ρ' ∧ _)); refine' ⟨_, _, rfl, ?hsa, ?_⟩; (case hsa => walk_at "seta"))
  | ((with_reducible show (∃ s t ρ1 ρ2, slOf _ _ = some s ∧ slOf _ _ = some t ∧ _)); refine' ⟨_, _, _, _, rfl, rfl, ?hsa, ?hsb, ?_⟩; (case hsa => walk_at "seta"); (case hsb => walk_at "seta"))
  | ((with_reducible show (∃ ρ', asgT _ _ _ = some ρ' ∧ _)); refine' ⟨_, ?hsa, ?_⟩; (case hsa => walk_at "asg")))
local macro_rules | `(tactic| walk_at "pw") => `(tactic| repeat (first | walk_at "ps" | walk_at "pe"))
local macro_rules | `(tactic| walk_at "pwd") => `(tactic| repeat (first | walk_at "ps" | walk_at "pe" | walk_at "pd"))
local macro_rules | `(tactic| walk_at "fn") => `(tactic| (refine' w_fnC ?h1 ?h2 ?h3 ?_; (case h1 => exact rfl); (case h2 => exact rfl); (case h3 => (simp only [List.map_cons, List.map_nil, List.replicate, Nat.sub_self, List.append_nil, List.cons_append, List.nil_append]; exact rfl)); show WS _ _ (.cons _ _) _ _ _))
local macro_rules | `(tactic| walk_at "new") => `(tactic| (refine' w_newC ?h0 ?h1 ?h2 ?h3 ?_; (case h0 => exact rfl); (case h1 => exact rfl); (case h2 => exact rfl); (case h3 => (simp only [List.map_cons, List.map_nil, List.replicate, Nat.sub_self, List.append_nil, List.cons_append, List.nil_append]; exact rfl)); show WS _ _ (.cons _ _) _ _ _))

local macro_rules | `(tactic| walk_at "wl") => `(tactic| (refine' wl_cons ?ha ?_; (case ha => walk_at "asg")))
local macro_rules | `(tactic| walk_at "appop") => `(tactic| (refine' ⟨_, _, _, _, _, _, _, rfl, rfl, rfl, rfl, rfl, ?ha, ?hm, ?_⟩; (case ha => walk_at "seta"); (case hm => (refine' mut_own rfl rfl ?hb; (case hb => walk_at "seta")))))
local macro_rules | `(tactic| walk_at "fin") => `(tactic| first | done | exact trivial | exact rfl | (and_intros <;> first | exact rfl | exact trivial))

abbrev ca (n : Nat) : Calls := cal pg n
theorem lot_atA (n : Nat) (S : Sto) (bs ls : List PV) (d : Int) (h1 : 1 ≤ d) (hL : 0 < ls.length) : W ((ca (n+1)).fn 22 [.lst bs, .lst ls, .int d]) S fun v S' => v = (if d ≤ bs.length then bs.getD (d-1).toNat .non else ls.getD ((d - bs.length - 1) % ls.length).toNat .non) ∧ S' = S := by
  walk_at "fn"
  walk_at "pw"
  by_cases h : d ≤ bs.length
  · rw [if_pos h, if_pos h]; exact ⟨rfl, trivial⟩
  · rw [if_neg h, if_neg h]; exact ⟨rfl, trivial⟩
theorem draw (n : Nat) (ns : List Int) (a e k : Int) (hn : ns.length ≤ 63) (ha : 0 ≤ a ∧ a < 1000000) (hk : 0 < k ∧ k < 1073741824) : W ((ca (n+1)).fn 20 [.loc 0, .int k]) (pen ns a e) fun v S' => Drew ns a k v S' := by
  walk_at "fn"
  walk_at "pwd"
  refine' br_d (fun h => ?_) (fun h => ?_)
  · walk_at "pwd"
    exact .of hk.1 (by omega)
  · walk_at "pwd"
    refine' br_n (br_e (fun h => ?_) (fun h => ?_))
    · walk_at "pwd"
      refine' if_by (fun h2 => ?_) (fun h2 => ?_)
      · rw [h] at h2; exfalso; simp only [List.length_nil] at h2; omega
      · walk_at "pwd"
        exact .of hk.1 (by omega)
    · have hp : 0 < (ns.map PV.int).length := List.length_pos_iff.mpr h
      obtain ⟨c, hc⟩ : ∃ c, (ns.map PV.int).getD (a % ((ns.map PV.int).length : Int)).toNat .non = .int c := by
        rw [getD_map 0 (by rw [List.length_map] at hp ⊢; have := Int.emod_nonneg a (b := ns.length) (by omega); have := Int.emod_lt_of_pos a (b := ns.length) (by omega); omega)]
        exact ⟨_, rfl⟩
      walk_at "pwd"
      rw [hc]
      walk_at "pwd"
      refine' if_by (fun h2 => br_d (fun h3 => ?_) (fun h3 => ?_)) (fun h2 => ?_)
      all_goals (walk_at "pwd"; exact .of hk.1 (by omega))
theorem dr (n : Nat) {ns : List Int} {b k : Int} {S : Sto} (hn : ns.length ≤ 63) (h : Pn ns b S) (hb : b < 1000000) (hk : 0 < k ∧ k < 1073741824) : W ((ca (n+1)).fn 20 [.loc 0, .int k]) S fun v S' => ∃ d, v = .int d ∧ (0 ≤ d ∧ d < k) ∧ Pn ns (b + 1) S' := by
  obtain ⟨a, e, rfl, h1, h2⟩ := h
  exact w_imp (draw n ns a e k hn ⟨h1, by omega⟩ hk) fun v S' q => q.pn h1 h2
end K51

set_option Elab.async false
set_option linter.all false
set_option maxRecDepth 100000
set_option maxHeartbeats 4000000
namespace K51
open PySem L2 PF PW
local macro_rules | `(tactic| walk_at "lv") => `(tactic| first | with_reducible exact lv_fn | ((with_reducible refine' lv_th ?hl); (case hl => walk_at "lv")) | ((with_reducible refine' lv_lo ?hl); (case hl => walk_at "lv")))
local macro_rules | `(tactic| walk_at "seta") => `(tactic| first | with_reducible exact SetA.z | ((with_reducible refine' SetA.s ?hss); (case hss => walk_at "seta")))
local macro_rules | `(tactic| walk_at "setas") => `(tactic| first | with_reducible exact SetAs.nil | ((with_reducible refine' SetAs.cons ?hsa ?hsb); (case hsa => walk_at "seta"); (case hsb => walk_at "setas")))
local macro_rules | `(tactic| walk_at "wipea") => `(tactic| first | with_reducible exact WipeA.nil | (refine' WipeA.cons ?hwr ?hws; (case hwr => walk_at "wipea"); (case hws => walk_at "seta")))
local macro_rules | `(tactic| walk_at "asg") => `(tactic| first | ((with_reducible refine' asg_nm ?hsa); (case hsa => walk_at "seta")) | ((with_reducible refine' asg_tp ?hsa); (case hsa => walk_at "setas")) | ((with_reducible refine' asg_w ?hw1 ?hw2); (case hw1 => walk_at "wipea"); (case hw2 => walk_at "asg")))
local macro_rules | `(tactic| walk_at "pe") => `(tactic| simp -implicitDefEqProofs (disch := first | omega | with_reducible assumption | (simp only [List.length_map, List.length_append, List.length_cons, List.length_nil, List.length_replicate, List.length_range, List.length_drop, List.length_take]; omega) | exact okNs_ints | ((with_reducible show decide _ = true); decide)) only [PW.w_ret_eq, PW.op_some, PW.op_none, PW.rv_0, PW.rv_s, PW.rb_0, PW.rb_0o, PW.rb_s, PW.ro_0, PW.ro_0o, PW.ro_s, PW.ng_int, PW.bk_bl, PW.ln_ok, PW.iv_lst, PW.iv_tup, PW.iv_str, PW.r1_int, PW.r2_int, PW.zp_lst, PW.en_lst, PW.ti_int, PW.e_cst, PW.e_glb, PW.e_var, PW.e_bor, PW.e_bin, PW.e_neg, PW.e_not, PW.e_and, PW.e_or, PW.e_ite, PW.e_isn, PW.e_notn, PW.e_eq, PW.e_ne, PW.e_lt, PW.e_le, PW.e_gt, PW.e_ge, PW.e_in, PW.e_nin, PW.e_chn, PW.e_tup, PW.e_lst, PW.e_idx, PW.d_lst, PW.d_tup, PW.d_str, PW.d_loc, PW.e_slc, PW.o_none, PW.o_some, PW.e_att, PW.e_atO, PW.e_bif, PW.e_isi, PW.e_call, PW.e_make, PW.e_meth, PW.a_nil, PW.a_cons, PW.t_not, PW.t_and, PW.t_or, PW.tr_bl, PW.tr_int, PW.tr_non, PW.tr_lst, PW.tr_tup, PW.t_cmp, PW.t_chn, PW.t_var, PW.t_bor, PW.t_call, PW.t_meth, PW.t_bif, PW.t_isi, PW.t_idx, PW.t_att, PW.t_atO, PW.t_lc, PW.t_cst, PW.i_val, PW.i_rng1, PW.i_rng2, PW.i_zip, PW.i_enum, PW.e_lc, PW.p_add, PW.p_sub, PW.p_mulR, PW.p_mulL, PW.p_mod, PW.p_div, PW.p_pow, PW.p_catL, PW.p_catT, PW.p_catS, PW.p_rep, PW.c_lt, PW.c_gt, PW.c_le, PW.c_ge, PW.c_ltS, PW.c_eqI, PW.c_neI, PW.c_eqS, PW.c_neS, PW.c_chI, PW.c_chL, PW.c_chS, PW.f_lL, PW.f_lT, PW.f_lS, PW.f_int, PW.f_intB, PW.f_abs, PW.f_tupL, PW.f_tupT, PW.f_lstL, PW.f_lstT, PW.f_max, PW.f_min, PW.f_slcL, PW.f_slcT, PW.s_nil, PW.s_p, PW.s_k, PW.s_d, PW.g_0, PW.g_s, PW.op_bind, PW.x_idxL, PW.x_idxT, PW.x_idxLn, PW.x_idxTn, PW.cut_nn, PW.cut_sn, PW.cut_ns, PW.cut_snN, PW.cut_nsN, PW.pen_get, PW.c_neE, PW.c_eqE, PW.c_neET, PW.c_eqET, PW.x_idxLm, PW.x_idxTm, PW.is_ii, PW.is_ib, PW.is_ss, PW.is_ll, PW.is_lt, PW.is_cc, PW.f_allT, PW.f_sl63, if_true, if_false, Bool.not_true, Bool.not_false, Bool.false_eq_true, decide_eq_true_eq, PF.isNon, Bool.not_eq_true', decide_eq_false_iff_not, reduceIte, List.getD_cons_zero, List.getD_cons_succ, Int.reduceToNat, List.length_cons, List.length_nil, Nat.reduceAdd, Int.cast_ofNat_Int, List.eraseIdx_cons_zero, List.eraseIdx_cons_succ, List.nil_append, List.cons_append, List.append_nil, Bool.true_eq_false, not_true_eq_false, not_false_eq_true])
local macro_rules | `(tactic| walk_at "pd") => `(tactic| simp -implicitDefEqProofs (disch := first | omega | exact ⟨by omega, digest_small (by omega)⟩) only [PW.w_ret_eq, PW.op_some, PW.op_none, PW.rv_0, PW.rv_s, PW.rb_0, PW.rb_0o, PW.rb_s, PW.ro_0, PW.ro_0o, PW.ro_s, PW.ng_int, PW.bk_bl, PW.ln_ok, PW.iv_lst, PW.iv_tup, PW.iv_str, PW.r1_int, PW.r2_int, PW.zp_lst, PW.en_lst, PW.ti_int, PW.e_cst, PW.e_glb, PW.e_var, PW.e_bor, PW.e_bin, PW.e_neg, PW.e_not, PW.e_and, PW.e_or, PW.e_ite, PW.e_isn, PW.e_notn, PW.e_eq, PW.e_ne, PW.e_lt, PW.e_le, PW.e_gt, PW.e_ge, PW.e_in, PW.e_nin, PW.e_chn, PW.e_tup, PW.e_lst, PW.e_idx, PW.d_lst, PW.d_tup, PW.d_str, PW.d_loc, PW.e_slc, PW.o_none, PW.o_some, PW.e_att, PW.e_atO, PW.e_bif, PW.e_isi, PW.e_call, PW.e_make, PW.e_meth, PW.a_nil, PW.a_cons, PW.t_not, PW.t_and, PW.t_or, PW.tr_bl, PW.tr_int, PW.tr_non, PW.tr_lst, PW.tr_tup, PW.t_cmp, PW.t_chn, PW.t_var, PW.t_bor, PW.t_call, PW.t_meth, PW.t_bif, PW.t_isi, PW.t_idx, PW.t_att, PW.t_atO, PW.t_lc, PW.t_cst, PW.i_val, PW.i_rng1, PW.i_rng2, PW.i_zip, PW.i_enum, PW.e_lc, PW.p_add, PW.p_sub, PW.p_mulR, PW.p_mulL, PW.p_mod, PW.p_div, PW.p_pow, PW.p_catL, PW.p_catT, PW.p_catS, PW.p_rep, PW.c_lt, PW.c_gt, PW.c_le, PW.c_ge, PW.c_ltS, PW.c_eqI, PW.c_neI, PW.c_eqS, PW.c_neS, PW.c_chI, PW.c_chL, PW.c_chS, PW.f_lL, PW.f_lT, PW.f_lS, PW.f_int, PW.f_intB, PW.f_abs, PW.f_tupL, PW.f_tupT, PW.f_lstL, PW.f_lstT, PW.f_max, PW.f_min, PW.f_slcL, PW.f_slcT, PW.s_nil, PW.s_p, PW.s_k, PW.s_d, PW.g_0, PW.g_s, PW.op_bind, PW.x_idxL, PW.x_idxT, PW.x_idxLn, PW.x_idxTn, PW.cut_nn, PW.cut_sn, PW.cut_ns, PW.cut_snN, PW.cut_nsN, PW.pen_get, PW.c_neE, PW.c_eqE, PW.c_neET, PW.c_eqET, PW.x_idxLm, PW.x_idxTm, PW.is_ii, PW.is_ib, PW.is_ss, PW.is_ll, PW.is_lt, PW.is_cc, PW.f_allT, PW.f_sl63, if_true, if_false, Bool.not_true, Bool.not_false, Bool.false_eq_true, decide_eq_true_eq, PF.isNon, Bool.not_eq_true', decide_eq_false_iff_not, reduceIte, List.getD_cons_zero, List.getD_cons_succ, Int.reduceToNat, List.length_cons, List.length_nil, Nat.reduceAdd, Int.cast_ofNat_Int, List.eraseIdx_cons_zero, List.eraseIdx_cons_succ, List.nil_append, List.cons_append, List.append_nil, Bool.true_eq_false, not_true_eq_false, not_false_eq_true])
local macro_rules | `(tactic| walk_at "ps") => `(tactic| first
  | with_reducible refine' ws_set ?_ | with_reducible refine' ws_setO ?_ | with_reducible refine' ws_par ?_ | with_reducible refine' ws_unp ?_ | with_reducible refine' ws_exp ?_ | with_reducible refine' ws_pas ?_
  | ((with_reducible refine' ws_ret ?hlv ?_); (case hlv => walk_at "lv"))
  | ((with_reducible refine' ws_retN ?hlv ?_); (case hlv => walk_at "lv"))
  | ((with_reducible refine' ws_retNew ?hlv ?_); (case hlv => walk_at "lv"))
  | with_reducible refine' ws_iff ?_ | with_reducible refine' ws_nilT ?_ | with_reducible refine' ws_nilL ?_ | with_reducible refine' ws_nilF ?_ | with_reducible refine' ws_nilI ?_
  | with_reducible refine' ws_for ?_ | with_reducible refine' ws_whl ?_
  | ((with_reducible refine' ws_frz ?_); simp only [frzE, List.getElem?_cons_zero, List.getElem?_cons_succ, List.set_cons_zero, List.set_cons_succ])
  | with_reducible refine' ws_fld ?_ | with_reducible refine' ws_app ?_ | with_reducible refine' ws_ext ?_ | with_reducible refine' ws_appop ?_ | with_reducible refine' ws_sub ?_ | with_reducible refine' th_nxt ?_ | with_reducible refine' lo_nxt ?_ | with_reducible refine' lo_cnt ?_ | with_reducible refine' lo_brk ?_ | with_reducible refine' th_brk ?_ | with_reducible refine' th_cnt ?_ | with_reducible refine' ws_brk ?_ | with_reducible refine' ws_cnt ?_
  | ((with_reducible show (chkB _ _ = true ∧ _)); refine' ⟨rfl, ?_⟩)
  | ((with_reducible show (∃ kk ρ' S', PV.int _ = PV.int kk ∧ mutL _ _ _ _ = _ ∧ _)); (first | refine' ⟨_, _, _, rfl, pen_put1 rfl, ?_⟩ | refine' ⟨_, _, _, rfl, pen_put2 rfl, ?_⟩))
  | ((with_reducible refine' br_tt ?_)) | ((with_reducible refine' br_ff ?_))
  | ((with_reducible show (∃ ρ', SetA _ _ _ ρ' ∧ _)); refine' ⟨_, ?hsa, ?_⟩; (case hsa => walk_at "seta"))
  | ((with_reducible show (∃ xs ρ', PV.lst _ = PV.lst xs ∧ SetA _ _ _ ρ' ∧ _)); refine' ⟨_, _, rfl, ?hsa, ?_⟩; (case hsa => walk_at "seta"))
  | ((with_reducible show (∃ s t ρ1 ρ2, slOf _ _ = some s ∧ slOf _ _ = some t ∧ _)); refine' ⟨_, _, _, _, rfl, rfl, ?hsa, ?hsb, ?_⟩; (case hsa => walk_at "seta"); (case hsb => walk_at "seta"))
  | ((with_reducible show (∃ ρ', asgT _ _ _ = some ρ' ∧ _)); refine' ⟨_, ?hsa, ?_⟩; (case hsa => walk_at "asg")))
local macro_rules | `(tactic| walk_at "pw") => `(tactic| repeat (first | walk_at "ps" | walk_at "pe"))
local macro_rules | `(tactic| walk_at "pwd") => `(tactic| repeat (first | walk_at "ps" | walk_at "pe" | walk_at "pd"))
local macro_rules | `(tactic| walk_at "fn") => `(tactic| (refine' w_fnC ?h1 ?h2 ?h3 ?_; (case h1 => exact rfl); (case h2 => exact rfl); (case h3 => (simp only [List.map_cons, List.map_nil, List.replicate, Nat.sub_self, List.append_nil, List.cons_append, List.nil_append]; exact rfl)); show WS _ _ (.cons _ _) _ _ _))
local macro_rules | `(tactic| walk_at "new") => `(tactic| (refine' w_newC ?h0 ?h1 ?h2 ?h3 ?_; (case h0 => exact rfl); (case h1 => exact rfl); (case h2 => exact rfl); (case h3 => (simp only [List.map_cons, List.map_nil, List.replicate, Nat.sub_self, List.append_nil, List.cons_append, List.nil_append]; exact rfl)); show WS _ _ (.cons _ _) _ _ _))

local macro_rules | `(tactic| walk_at "wl") => `(tactic| (refine' wl_cons ?ha ?_; (case ha => walk_at "asg")))
local macro_rules | `(tactic| walk_at "appop") => `(tactic| (refine' ⟨_, _, _, _, _, _, _, rfl, rfl, rfl, rfl, rfl, ?ha, ?hm, ?_⟩; (case ha => walk_at "seta"); (case hm => (refine' mut_own rfl rfl ?hb; (case hb => walk_at "seta")))))
local macro_rules | `(tactic| walk_at "fin") => `(tactic| first | done | exact trivial | exact rfl | (and_intros <;> first | exact rfl | exact trivial))

/-- a lot -/
inductive Lt where
  | e
  | a
  | b
  | ab
  deriving DecidableEq
def lv : Lt → PV
  | .e => .tup []
  | .a => .tup [.str "a"]
  | .b => .tup [.str "b"]
  | .ab => .tup [.str "a", .str "b"]
def nv : Bool → PV
  | true => .lst [.str "a", .str "b"]
  | false => .lst [.str "a"]
theorem pick (n : Nat) {ns : List Int} {b : Int} {S : Sto} (hn : ns.length ≤ 63) (h : Pn ns b S) (hb : b < 1000000) : W ((ca (n+2)).fn 21 [.loc 0, .lst [nv true, nv false, nv true]]) S fun v S' => (∃ k, v = nv k) ∧ Pn ns (b + 1) S' := by
  walk_at "fn"
  walk_at "pw"
  refine' w_imp (dr n hn h hb (by decide)) ?_
  rintro v S1 ⟨d, rfl, hd, hp⟩
  rw [x_idxL (by simp only [List.length_cons, List.length_nil]; omega)]
  have : d = 0 ∨ d = 1 ∨ d = 2 := by omega
  rcases this with rfl | rfl | rfl
  · exact ⟨⟨true, rfl⟩, hp⟩
  · exact ⟨⟨false, rfl⟩, hp⟩
  · exact ⟨⟨true, rfl⟩, hp⟩
theorem some2 (n : Nat) {ns : List Int} {b : Int} {S : Sto} (hn : ns.length ≤ 63) (h : Pn ns b S) (hb : b < 100000) : W ((ca (n+2)).fn 23 [.loc 0, nv true, .int 2]) S fun v S' => (∃ z, v = lv z) ∧ Pn ns (b + 3) S' := by
  walk_at "fn"
  walk_at "pw"
  unfold nv
  walk_at "pw"
  refine' w_imp (dr n hn h (by omega) (by decide)) ?_
  rintro v S1 ⟨d, rfl, hd, hp⟩
  walk_at "pw"
  have : d = 0 ∨ d = 1 ∨ d = 2 := by omega
  rcases this with rfl | rfl | rfl
  · refine' wl_nil ?_
    walk_at "pw"
    exact op_of rfl (op_of rfl ⟨⟨.e, rfl⟩, hp.up (by omega)⟩)
  · walk_at "wl"
    walk_at "pw"
    refine' w_imp (dr n hn hp (by omega) (by decide)) ?_
    rintro v S2 ⟨d, rfl, hd, hq⟩
    have : d = 0 ∨ d = 1 := by omega
    rcases this with rfl | rfl
    all_goals
      walk_at "appop"
      walk_at "pw"
      refine' wl_nil ?_
      walk_at "pw"
    · exact op_of rfl (op_of rfl ⟨⟨.a, rfl⟩, hq.up (by omega)⟩)
    · exact op_of rfl (op_of rfl ⟨⟨.b, rfl⟩, hq.up (by omega)⟩)
  · walk_at "wl"
    walk_at "pw"
    refine' w_imp (dr n hn hp (by omega) (by decide)) ?_
    rintro v S2 ⟨d, rfl, hd, hq⟩
    have : d = 0 ∨ d = 1 := by omega
    rcases this with rfl | rfl
    all_goals
      walk_at "appop"
      walk_at "pw"
      walk_at "wl"
      walk_at "pw"
      refine' w_imp (dr n hn hq (by omega) (by decide)) ?_
      rintro v S3 ⟨d, rfl, hd, hr⟩
      have : d = 0 := by omega
      rcases this with rfl
      walk_at "appop"
      walk_at "pw"
      refine' wl_nil ?_
      walk_at "pw"
      exact op_of rfl (op_of rfl ⟨⟨.ab, rfl⟩, hr.up (by omega)⟩)
end K51

set_option Elab.async false
set_option linter.all false
set_option maxRecDepth 100000
set_option maxHeartbeats 4000000
namespace K51
open PySem L2 PF PW
local macro_rules | `(tactic| walk_at "lv") => `(tactic| first | with_reducible exact lv_fn | ((with_reducible refine' lv_th ?hl); (case hl => walk_at "lv")) | ((with_reducible refine' lv_lo ?hl); (case hl => walk_at "lv")))
local macro_rules | `(tactic| walk_at "seta") => `(tactic| first | with_reducible exact SetA.z | ((with_reducible refine' SetA.s ?hss); (case hss => walk_at "seta")))
local macro_rules | `(tactic| walk_at "setas") => `(tactic| first | with_reducible exact SetAs.nil | ((with_reducible refine' SetAs.cons ?hsa ?hsb); (case hsa => walk_at "seta"); (case hsb => walk_at "setas")))
local macro_rules | `(tactic| walk_at "wipea") => `(tactic| first | with_reducible exact WipeA.nil | (refine' WipeA.cons ?hwr ?hws; (case hwr => walk_at "wipea"); (case hws => walk_at "seta")))
local macro_rules | `(tactic| walk_at "asg") => `(tactic| first | ((with_reducible refine' asg_nm ?hsa); (case hsa => walk_at "seta")) | ((with_reducible refine' asg_tp ?hsa); (case hsa => walk_at "setas")) | ((with_reducible refine' asg_w ?hw1 ?hw2); (case hw1 => walk_at "wipea"); (case hw2 => walk_at "asg")))
local macro_rules | `(tactic| walk_at "pe") => `(tactic| simp -implicitDefEqProofs (disch := first | omega | with_reducible assumption | (simp only [List.length_map, List.length_append, List.length_cons, List.length_nil, List.length_replicate, List.length_range, List.length_drop, List.length_take]; omega) | exact okNs_ints | ((with_reducible show decide _ = true); decide)) only [PW.w_ret_eq, PW.op_some, PW.op_none, PW.rv_0, PW.rv_s, PW.rb_0, PW.rb_0o, PW.rb_s, PW.ro_0, PW.ro_0o, PW.ro_s, PW.ng_int, PW.bk_bl, PW.ln_ok, PW.iv_lst, PW.iv_tup, PW.iv_str, PW.r1_int, PW.r2_int, PW.zp_lst, PW.en_lst, PW.ti_int, PW.e_cst, PW.e_glb, PW.e_var, PW.e_bor, PW.e_bin, PW.e_neg, PW.e_not, PW.e_and, PW.e_or, PW.e_ite, PW.e_isn, PW.e_notn, PW.e_eq, PW.e_ne, PW.e_lt, PW.e_le, PW.e_gt, PW.e_ge, PW.e_in, PW.e_nin, PW.e_chn, PW.e_tup, PW.e_lst, PW.e_idx, PW.d_lst, PW.d_tup, PW.d_str, PW.d_loc, PW.e_slc, PW.o_none, PW.o_some, PW.e_att, PW.e_atO, PW.e_bif, PW.e_isi, PW.e_call, PW.e_make, PW.e_meth, PW.a_nil, PW.a_cons, PW.t_not, PW.t_and, PW.t_or, PW.tr_bl, PW.tr_int, PW.tr_non, PW.tr_lst, PW.tr_tup, PW.t_cmp, PW.t_chn, PW.t_var, PW.t_bor, PW.t_call, PW.t_meth, PW.t_bif, PW.t_isi, PW.t_idx, PW.t_att, PW.t_atO, PW.t_lc, PW.t_cst, PW.i_val, PW.i_rng1, PW.i_rng2, PW.i_zip, PW.i_enum, PW.e_lc, PW.p_add, PW.p_sub, PW.p_mulR, PW.p_mulL, PW.p_mod, PW.p_div, PW.p_pow, PW.p_catL, PW.p_catT, PW.p_catS, PW.p_rep, PW.c_lt, PW.c_gt, PW.c_le, PW.c_ge, PW.c_ltS, PW.c_eqI, PW.c_neI, PW.c_eqS, PW.c_neS, PW.c_chI, PW.c_chL, PW.c_chS, PW.f_lL, PW.f_lT, PW.f_lS, PW.f_int, PW.f_intB, PW.f_abs, PW.f_tupL, PW.f_tupT, PW.f_lstL, PW.f_lstT, PW.f_max, PW.f_min, PW.f_slcL, PW.f_slcT, PW.s_nil, PW.s_p, PW.s_k, PW.s_d, PW.g_0, PW.g_s, PW.op_bind, PW.x_idxL, PW.x_idxT, PW.x_idxLn, PW.x_idxTn, PW.cut_nn, PW.cut_sn, PW.cut_ns, PW.cut_snN, PW.cut_nsN, PW.pen_get, PW.c_neE, PW.c_eqE, PW.c_neET, PW.c_eqET, PW.x_idxLm, PW.x_idxTm, PW.is_ii, PW.is_ib, PW.is_ss, PW.is_ll, PW.is_lt, PW.is_cc, PW.f_allT, PW.f_sl63, if_true, if_false, Bool.not_true, Bool.not_false, Bool.false_eq_true, decide_eq_true_eq, PF.isNon, Bool.not_eq_true', decide_eq_false_iff_not, reduceIte, List.getD_cons_zero, List.getD_cons_succ, Int.reduceToNat, List.length_cons, List.length_nil, Nat.reduceAdd, Int.cast_ofNat_Int, List.eraseIdx_cons_zero, List.eraseIdx_cons_succ, List.nil_append, List.cons_append, List.append_nil, Bool.true_eq_false, not_true_eq_false, not_false_eq_true])
local macro_rules | `(tactic| walk_at "pd") => `(tactic| simp -implicitDefEqProofs (disch := first | omega | exact ⟨by omega, digest_small (by omega)⟩) only [PW.w_ret_eq, PW.op_some, PW.op_none, PW.rv_0, PW.rv_s, PW.rb_0, PW.rb_0o, PW.rb_s, PW.ro_0, PW.ro_0o, PW.ro_s, PW.ng_int, PW.bk_bl, PW.ln_ok, PW.iv_lst, PW.iv_tup, PW.iv_str, PW.r1_int, PW.r2_int, PW.zp_lst, PW.en_lst, PW.ti_int, PW.e_cst, PW.e_glb, PW.e_var, PW.e_bor, PW.e_bin, PW.e_neg, PW.e_not, PW.e_and, PW.e_or, PW.e_ite, PW.e_isn, PW.e_notn, PW.e_eq, PW.e_ne, PW.e_lt, PW.e_le, PW.e_gt, PW.e_ge, PW.e_in, PW.e_nin, PW.e_chn, PW.e_tup, PW.e_lst, PW.e_idx, PW.d_lst, PW.d_tup, PW.d_str, PW.d_loc, PW.e_slc, PW.o_none, PW.o_some, PW.e_att, PW.e_atO, PW.e_bif, PW.e_isi, PW.e_call, PW.e_make, PW.e_meth, PW.a_nil, PW.a_cons, PW.t_not, PW.t_and, PW.t_or, PW.tr_bl, PW.tr_int, PW.tr_non, PW.tr_lst, PW.tr_tup, PW.t_cmp, PW.t_chn, PW.t_var, PW.t_bor, PW.t_call, PW.t_meth, PW.t_bif, PW.t_isi, PW.t_idx, PW.t_att, PW.t_atO, PW.t_lc, PW.t_cst, PW.i_val, PW.i_rng1, PW.i_rng2, PW.i_zip, PW.i_enum, PW.e_lc, PW.p_add, PW.p_sub, PW.p_mulR, PW.p_mulL, PW.p_mod, PW.p_div, PW.p_pow, PW.p_catL, PW.p_catT, PW.p_catS, PW.p_rep, PW.c_lt, PW.c_gt, PW.c_le, PW.c_ge, PW.c_ltS, PW.c_eqI, PW.c_neI, PW.c_eqS, PW.c_neS, PW.c_chI, PW.c_chL, PW.c_chS, PW.f_lL, PW.f_lT, PW.f_lS, PW.f_int, PW.f_intB, PW.f_abs, PW.f_tupL, PW.f_tupT, PW.f_lstL, PW.f_lstT, PW.f_max, PW.f_min, PW.f_slcL, PW.f_slcT, PW.s_nil, PW.s_p, PW.s_k, PW.s_d, PW.g_0, PW.g_s, PW.op_bind, PW.x_idxL, PW.x_idxT, PW.x_idxLn, PW.x_idxTn, PW.cut_nn, PW.cut_sn, PW.cut_ns, PW.cut_snN, PW.cut_nsN, PW.pen_get, PW.c_neE, PW.c_eqE, PW.c_neET, PW.c_eqET, PW.x_idxLm, PW.x_idxTm, PW.is_ii, PW.is_ib, PW.is_ss, PW.is_ll, PW.is_lt, PW.is_cc, PW.f_allT, PW.f_sl63, if_true, if_false, Bool.not_true, Bool.not_false, Bool.false_eq_true, decide_eq_true_eq, PF.isNon, Bool.not_eq_true', decide_eq_false_iff_not, reduceIte, List.getD_cons_zero, List.getD_cons_succ, Int.reduceToNat, List.length_cons, List.length_nil, Nat.reduceAdd, Int.cast_ofNat_Int, List.eraseIdx_cons_zero, List.eraseIdx_cons_succ, List.nil_append, List.cons_append, List.append_nil, Bool.true_eq_false, not_true_eq_false, not_false_eq_true])
local macro_rules | `(tactic| walk_at "ps") => `(tactic| first
  | with_reducible refine' ws_set ?_ | with_reducible refine' ws_setO ?_ | with_reducible refine' ws_par ?_ | with_reducible refine' ws_unp ?_ | with_reducible refine' ws_exp ?_ | with_reducible refine' ws_pas ?_
  | ((with_reducible refine' ws_ret ?hlv ?_); (case hlv => walk_at "lv"))
  | ((with_reducible refine' ws_retN ?hlv ?_); (case hlv => walk_at "lv"))
  | ((with_reducible refine' ws_retNew ?hlv ?_); (case hlv => walk_at "lv"))
  | with_reducible refine' ws_iff ?_ | with_reducible refine' ws_nilT ?_ | with_reducible refine' ws_nilL ?_ | with_reducible refine' ws_nilF ?_ | with_reducible refine' ws_nilI ?_
  | with_reducible refine' ws_for ?_ | with_reducible refine' ws_whl ?_
  | ((with_reducible refine' ws_frz ?_); simp only [frzE, List.getElem?_cons_zero, List.getElem?_cons_succ, List.set_cons_zero, List.set_cons_succ])
  | with_reducible refine' ws_fld ?_ | with_reducible refine' ws_app ?_ | with_reducible refine' ws_ext ?_ | with_reducible refine' ws_appop ?_ | with_reducible refine' ws_sub ?_ | with_reducible refine' th_nxt ?_ | with_reducible refine' lo_nxt ?_ | with_reducible refine' lo_cnt ?_ | with_reducible refine' lo_brk ?_ | with_reducible refine' th_brk ?_ | with_reducible refine' th_cnt ?_ | with_reducible refine' ws_brk ?_ | with_reducible refine' ws_cnt ?_
  | ((with_reducible show (chkB _ _ = true ∧ _)); refine' ⟨rfl, ?_⟩)
  | ((with_reducible show (∃ kk ρ' S', PV.int _ = PV.int kk ∧ mutL _ _ _ _ = _ ∧ _)); (first | refine' ⟨_, _, _, rfl, pen_put1 rfl, ?_⟩ | refine' ⟨_, _, _, rfl, pen_put2 rfl, ?_⟩))
  | ((with_reducible refine' br_tt ?_)) | ((with_reducible refine' br_ff ?_))
  | ((with_reducible show (∃ ρ', SetA _ _ _ ρ' ∧ _)); refine' ⟨_, ?hsa, ?_⟩; (case hsa => walk_at "seta"))
  | ((with_reducible show (∃ xs ρ', PV.lst _ = PV.lst xs ∧ SetA _ _ _ ρ' ∧ _)); refine' ⟨_, _, rfl, ?hsa, ?_⟩; (case hsa => walk_at "seta"))
  | ((with_reducible show (∃ s t ρ1 ρ2, slOf _ _ = some s ∧ slOf _ _ = some t ∧ _)); refine' ⟨_, _, _, _, rfl, rfl, ?hsa, ?hsb, ?_⟩; (case hsa => walk_at "seta"); (case hsb => walk_at "seta"))
  | ((with_reducible show (∃ ρ', asgT _ _ _ = some ρ' ∧ _)); refine' ⟨_, ?hsa, ?_⟩; (case hsa => walk_at "asg")))
local macro_rules | `(tactic| walk_at "pw") => `(tactic| repeat (first | walk_at "ps" | walk_at "pe"))
local macro_rules | `(tactic| walk_at "pwd") => `(tactic| repeat (first | walk_at "ps" | walk_at "pe" | walk_at "pd"))
local macro_rules | `(tactic| walk_at "fn") => `(tactic| (refine' w_fnC ?h1 ?h2 ?h3 ?_; (case h1 => exact rfl); (case h2 => exact rfl); (case h3 => (simp only [List.map_cons, List.map_nil, List.replicate, Nat.sub_self, List.append_nil, List.cons_append, List.nil_append]; exact rfl)); show WS _ _ (.cons _ _) _ _ _))
local macro_rules | `(tactic| walk_at "new") => `(tactic| (refine' w_newC ?h0 ?h1 ?h2 ?h3 ?_; (case h0 => exact rfl); (case h1 => exact rfl); (case h2 => exact rfl); (case h3 => (simp only [List.map_cons, List.map_nil, List.replicate, Nat.sub_self, List.append_nil, List.cons_append, List.nil_append]; exact rfl)); show WS _ _ (.cons _ _) _ _ _))

local macro_rules | `(tactic| walk_at "wl") => `(tactic| (refine' wl_cons ?ha ?_; (case ha => walk_at "asg")))
local macro_rules | `(tactic| walk_at "appop") => `(tactic| (refine' ⟨_, _, _, _, _, _, _, rfl, rfl, rfl, rfl, rfl, ?ha, ?hm, ?_⟩; (case ha => walk_at "seta"); (case hm => (refine' mut_own rfl rfl ?hb; (case hb => walk_at "seta")))))
local macro_rules | `(tactic| walk_at "fin") => `(tactic| first | done | exact trivial | exact rfl | (and_intros <;> first | exact rfl | exact trivial))

theorem some1 (n : Nat) {ns : List Int} {b : Int} {S : Sto} (hn : ns.length ≤ 63) (h : Pn ns b S) (hb : b < 100000) : W ((ca (n+2)).fn 23 [.loc 0, nv false, .int 1]) S fun v S' => (∃ z, v = lv z) ∧ Pn ns (b + 3) S' := by
  walk_at "fn"
  walk_at "pw"
  unfold nv
  walk_at "pw"
  refine' w_imp (dr n hn h (by omega) (by decide)) ?_
  rintro v S1 ⟨d, rfl, hd, hp⟩
  walk_at "pw"
  have : d = 0 ∨ d = 1 := by omega
  rcases this with rfl | rfl
  · refine' wl_nil ?_
    walk_at "pw"
    exact op_of rfl (op_of rfl ⟨⟨.e, rfl⟩, hp.up (by omega)⟩)
  · walk_at "wl"
    walk_at "pw"
    refine' w_imp (dr n hn hp (by omega) (by decide)) ?_
    rintro v S2 ⟨d, rfl, hd, hq⟩
    have : d = 0 := by omega
    rcases this with rfl
    walk_at "appop"
    walk_at "pw"
    refine' wl_nil ?_
    walk_at "pw"
    exact op_of rfl (op_of rfl ⟨⟨.a, rfl⟩, hq.up (by omega)⟩)
def nl : Bool → Int
  | true => 2
  | false => 1
theorem f_nv {k : Bool} {S : Sto} {Q : PV → Sto → Prop} : OP (bifP .len [nv k]) S Q = Q (.int (nl k)) S := by
  cases k <;> exact op_some
theorem some_ (n : Nat) {ns : List Int} {b : Int} {S : Sto} {k : Bool} (hn : ns.length ≤ 63) (h : Pn ns b S) (hb : b < 100000) : W ((ca (n+2)).fn 23 [.loc 0, nv k, .int (nl k)]) S fun v S' => (∃ z, v = lv z) ∧ Pn ns (b + 3) S' := by
  cases k
  · exact some1 n hn h hb
  · exact some2 n hn h hb
theorem days (n : Nat) {ns : List Int} {b m : Int} {S : Sto} {k : Bool} (hn : ns.length ≤ 63) (h : Pn ns b S) (hb : b < 10000) (hm : 0 ≤ m ∧ m ≤ 4) : W ((ca (n+3)).fn 24 [.loc 0, nv k, .int m]) S fun v S' => (∃ l : List Lt, v = .lst (l.map lv) ∧ (l.length : Int) ≤ m) ∧ Pn ns (b + 20) S' := by
  walk_at "fn"
  walk_at "pw"
  refine' w_imp (dr (n+1) hn h (by omega) (by omega)) ?_
  rintro v S1 ⟨d, rfl, hd, hp⟩
  walk_at "pw"
  refine' lc_inv (fun j zs S => (∃ l : List Lt, zs = l.map lv ∧ l.length = j) ∧ Pn ns (b + 1 + 4 * j) S) ⟨⟨[], rfl, rfl⟩, by simpa using hp⟩ ?_ ?_
  · rintro j x zs S2 hj hx ⟨⟨l, rfl, hl⟩, hq⟩
    rw [List.length_map, List.length_range] at hj
    refine' lcF_none ?ha ?_
    case ha => walk_at "asg"
    walk_at "pw"
    refine' w_imp (dr (n+1) hn hq (by omega) (by omega)) ?_
    rintro v S3 ⟨e, rfl, he, hr⟩
    walk_at "pw"
    refine' if_by (fun h2 => ?_) (fun h2 => ?_)
    · rw [f_nv]
      walk_at "pw"
      refine' w_imp (some_ n hn hr (by omega)) ?_
      rintro v S4 ⟨⟨z, rfl⟩, hs⟩
      exact ⟨_, rfl, ⟨l ++ [z], by simp, by simp [hl]⟩, hs.up (by omega)⟩
    · exact ⟨_, rfl, ⟨l ++ [.e], by simp [lv], by simp [hl]⟩, hr.up (by omega)⟩
  · rintro zs S' ⟨⟨l, rfl, hl⟩, hq⟩
    rw [List.length_map, List.length_range] at hl hq
    exact ⟨⟨l, rfl, by omega⟩, hq.up (by omega)⟩
theorem calen (n : Nat) {ns : List Int} {b : Int} {S : Sto} {k : Bool} (hn : ns.length ≤ 63) (h : Pn ns b S) (hb : b < 5000) : W ((ca (n+4)).fn 25 [.loc 0, nv k]) S fun v S' => (∃ bs ls : List Lt, v = .tup [.lst (bs.map lv), .lst (ls.map lv)] ∧ bs.length ≤ 3 ∧ 1 ≤ ls.length ∧ ls.length ≤ 5) ∧ Pn ns (b + 50) S' := by
  walk_at "fn"
  walk_at "pw"
  refine' w_imp (days n hn h (by omega) (by omega)) ?_
  rintro v S1 ⟨⟨l, rfl, hl⟩, hp⟩
  walk_at "pw"
  refine' w_imp (dr (n+2) hn hp (by omega) (by omega)) ?_
  rintro v S3 ⟨e, rfl, he, hr⟩
  walk_at "pw"
  have fin : ∀ (z : Lt) (S3 : Sto), Pn ns (b + 25) S3 → W ((cal pg (n+3)).fn 24 [.loc 0, nv k, .int 3]) S3 fun x S1 => (∃ bs ls : List Lt, PV.tup [x, .lst (l.map lv ++ [lv z])] = .tup [.lst (bs.map lv), .lst (ls.map lv)] ∧ bs.length ≤ 3 ∧ 1 ≤ ls.length ∧ ls.length ≤ 5) ∧ Pn ns (b + 50) S1 := by
    intro z S3 hr
    refine' w_imp (days n hn hr (by omega) (by omega)) ?_
    rintro v S4 ⟨⟨l2, rfl, hl2⟩, hs⟩
    exact ⟨⟨l2, l ++ [z], by simp, by omega, by simp, by simp; omega⟩, hs.up (by omega)⟩
  refine' if_by (fun h2 => ?_) (fun h2 => ?_)
  · have : ∀ {Q : PV → Sto → Prop}, OP (bifP .tuple [nv k]) S3 Q = Q (lv (if k then .ab else .a)) S3 := by
      intro Q
      cases k <;> exact op_some
    rw [this]
    walk_at "pw"
    exact fin _ _ (hr.up (by omega))
  · rw [f_nv]
    walk_at "pw"
    refine' w_imp (some_ (n+1) hn hr (by omega)) ?_
    rintro v S4 ⟨⟨z, rfl⟩, hs⟩
    walk_at "pw"
    exact fin _ _ (hs.up (by omega))
end K51

set_option Elab.async false
set_option linter.all false
set_option maxRecDepth 100000
set_option maxHeartbeats 4000000
namespace K51

open PySem L2 PF PW
local macro_rules | `(tactic| walk_at "lv") => `(tactic| first | with_reducible exact lv_fn | ((with_reducible refine' lv_th ?hl); (case hl => walk_at "lv")) | ((with_reducible refine' lv_lo ?hl); (case hl => walk_at "lv")))
local macro_rules | `(tactic| walk_at "seta") => `(tactic| first | with_reducible exact SetA.z | ((with_reducible refine' SetA.s ?hss); (case hss => walk_at "seta")))
local macro_rules | `(tactic| walk_at "setas") => `(tactic| first | with_reducible exact SetAs.nil | ((with_reducible refine' SetAs.cons ?hsa ?hsb); (case hsa => walk_at "seta"); (case hsb => walk_at "setas")))
local macro_rules | `(tactic| walk_at "wipea") => `(tactic| first | with_reducible exact WipeA.nil | (refine' WipeA.cons ?hwr ?hws; (case hwr => walk_at "wipea"); (case hws => walk_at "seta")))
local macro_rules | `(tactic| walk_at "asg") => `(tactic| first | ((with_reducible refine' asg_nm ?hsa); (case hsa => walk_at "seta")) | ((with_reducible refine' asg_tp ?hsa); (case hsa => walk_at "setas")) | ((with_reducible refine' asg_w ?hw1 ?hw2); (case hw1 => walk_at "wipea"); (case hw2 => walk_at "asg")))
local macro_rules | `(tactic| walk_at "pe") => `(tactic| simp -implicitDefEqProofs (disch := first | omega | with_reducible assumption | (simp only [List.length_map, List.length_append, List.length_cons, List.length_nil, List.length_replicate, List.length_range, List.length_drop, List.length_take]; omega) | exact okNs_ints | ((with_reducible show decide _ = true); decide)) only [PW.w_ret_eq, PW.op_some, PW.op_none, PW.rv_0, PW.rv_s, PW.rb_0, PW.rb_0o, PW.rb_s, PW.ro_0, PW.ro_0o, PW.ro_s, PW.ng_int, PW.bk_bl, PW.ln_ok, PW.iv_lst, PW.iv_tup, PW.iv_str, PW.r1_int, PW.r2_int, PW.zp_lst, PW.en_lst, PW.ti_int, PW.e_cst, PW.e_glb, PW.e_var, PW.e_bor, PW.e_bin, PW.e_neg, PW.e_not, PW.e_and, PW.e_or, PW.e_ite, PW.e_isn, PW.e_notn, PW.e_eq, PW.e_ne, PW.e_lt, PW.e_le, PW.e_gt, PW.e_ge, PW.e_in, PW.e_nin, PW.e_chn, PW.e_tup, PW.e_lst, PW.e_idx, PW.d_lst, PW.d_tup, PW.d_str, PW.d_loc, PW.e_slc, PW.o_none, PW.o_some, PW.e_att, PW.e_atO, PW.e_bif, PW.e_isi, PW.e_call, PW.e_make, PW.e_meth, PW.a_nil, PW.a_cons, PW.t_not, PW.t_and, PW.t_or, PW.tr_bl, PW.tr_int, PW.tr_non, PW.tr_lst, PW.tr_tup, PW.t_cmp, PW.t_chn, PW.t_var, PW.t_bor, PW.t_call, PW.t_meth, PW.t_bif, PW.t_isi, PW.t_idx, PW.t_att, PW.t_atO, PW.t_lc, PW.t_cst, PW.i_val, PW.i_rng1, PW.i_rng2, PW.i_zip, PW.i_enum, PW.e_lc, PW.p_add, PW.p_sub, PW.p_mulR, PW.p_mulL, PW.p_mod, PW.p_div, PW.p_pow, PW.p_catL, PW.p_catT, PW.p_catS, PW.p_rep, PW.c_lt, PW.c_gt, PW.c_le, PW.c_ge, PW.c_ltS, PW.c_eqI, PW.c_neI, PW.c_eqS, PW.c_neS, PW.c_chI, PW.c_chL, PW.c_chS, PW.f_lL, PW.f_lT, PW.f_lS, PW.f_int, PW.f_intB, PW.f_abs, PW.f_tupL, PW.f_tupT, PW.f_lstL, PW.f_lstT, PW.f_max, PW.f_min, PW.f_slcL, PW.f_slcT, PW.s_nil, PW.s_p, PW.s_k, PW.s_d, PW.g_0, PW.g_s, PW.op_bind, PW.x_idxL, PW.x_idxT, PW.x_idxLn, PW.x_idxTn, PW.cut_nn, PW.cut_sn, PW.cut_ns, PW.cut_snN, PW.cut_nsN, PW.pen_get, PW.c_neE, PW.c_eqE, PW.c_neET, PW.c_eqET, PW.x_idxLm, PW.x_idxTm, PW.is_ii, PW.is_ib, PW.is_ss, PW.is_ll, PW.is_lt, PW.is_cc, PW.f_allT, PW.f_sl63, if_true, if_false, Bool.not_true, Bool.not_false, Bool.false_eq_true, decide_eq_true_eq, PF.isNon, Bool.not_eq_true', decide_eq_false_iff_not, reduceIte, List.getD_cons_zero, List.getD_cons_succ, Int.reduceToNat, List.length_cons, List.length_nil, Nat.reduceAdd, Int.cast_ofNat_Int, List.eraseIdx_cons_zero, List.eraseIdx_cons_succ, List.nil_append, List.cons_append, List.append_nil, Bool.true_eq_false, not_true_eq_false, not_false_eq_true])
local macro_rules | `(tactic| walk_at "pd") => `(tactic| simp -implicitDefEqProofs (disch := first | omega | exact ⟨by omega, digest_small (by omega)⟩) only [PW.w_ret_eq, PW.op_some, PW.op_none, PW.rv_0, PW.rv_s, PW.rb_0, PW.rb_0o, PW.rb_s, PW.ro_0, PW.ro_0o, PW.ro_s, PW.ng_int, PW.bk_bl, PW.ln_ok, PW.iv_lst, PW.iv_tup, PW.iv_str, PW.r1_int, PW.r2_int, PW.zp_lst, PW.en_lst, PW.ti_int, PW.e_cst, PW.e_glb, PW.e_var, PW.e_bor, PW.e_bin, PW.e_neg, PW.e_not, PW.e_and, PW.e_or, PW.e_ite, PW.e_isn, PW.e_notn, PW.e_eq, PW.e_ne, PW.e_lt, PW.e_le, PW.e_gt, PW.e_ge, PW.e_in, PW.e_nin, PW.e_chn, PW.e_tup, PW.e_lst, PW.e_idx, PW.d_lst, PW.d_tup, PW.d_str, PW.d_loc, PW.e_slc, PW.o_none, PW.o_some, PW.e_att, PW.e_atO, PW.e_bif, PW.e_isi, PW.e_call, PW.e_make, PW.e_meth, PW.a_nil, PW.a_cons, PW.t_not, PW.t_and, PW.t_or, PW.tr_bl, PW.tr_int, PW.tr_non, PW.tr_lst, PW.tr_tup, PW.t_cmp, PW.t_chn, PW.t_var, PW.t_bor, PW.t_call, PW.t_meth, PW.t_bif, PW.t_isi, PW.t_idx, PW.t_att, PW.t_atO, PW.t_lc, PW.t_cst, PW.i_val, PW.i_rng1, PW.i_rng2, PW.i_zip, PW.i_enum, PW.e_lc, PW.p_add, PW.p_sub, PW.p_mulR, PW.p_mulL, PW.p_mod, PW.p_div, PW.p_pow, PW.p_catL, PW.p_catT, PW.p_catS, PW.p_rep, PW.c_lt, PW.c_gt, PW.c_le, PW.c_ge, PW.c_ltS, PW.c_eqI, PW.c_neI, PW.c_eqS, PW.c_neS, PW.c_chI, PW.c_chL, PW.c_chS, PW.f_lL, PW.f_lT, PW.f_lS, PW.f_int, PW.f_intB, PW.f_abs, PW.f_tupL, PW.f_tupT, PW.f_lstL, PW.f_lstT, PW.f_max, PW.f_min, PW.f_slcL, PW.f_slcT, PW.s_nil, PW.s_p, PW.s_k, PW.s_d, PW.g_0, PW.g_s, PW.op_bind, PW.x_idxL, PW.x_idxT, PW.x_idxLn, PW.x_idxTn, PW.cut_nn, PW.cut_sn, PW.cut_ns, PW.cut_snN, PW.cut_nsN, PW.pen_get, PW.c_neE, PW.c_eqE, PW.c_neET, PW.c_eqET, PW.x_idxLm, PW.x_idxTm, PW.is_ii, PW.is_ib, PW.is_ss, PW.is_ll, PW.is_lt, PW.is_cc, PW.f_allT, PW.f_sl63, if_true, if_false, Bool.not_true, Bool.not_false, Bool.false_eq_true, decide_eq_true_eq, PF.isNon, Bool.not_eq_true', decide_eq_false_iff_not, reduceIte, List.getD_cons_zero, List.getD_cons_succ, Int.reduceToNat, List.length_cons, List.length_nil, Nat.reduceAdd, Int.cast_ofNat_Int, List.eraseIdx_cons_zero, List.eraseIdx_cons_succ, List.nil_append, List.cons_append, List.append_nil, Bool.true_eq_false, not_true_eq_false, not_false_eq_true])
local macro_rules | `(tactic| walk_at "ps") => `(tactic| first
  | with_reducible refine' ws_set ?_ | with_reducible refine' ws_setO ?_ | with_reducible refine' ws_par ?_ | with_reducible refine' ws_unp ?_ | with_reducible refine' ws_exp ?_ | with_reducible refine' ws_pas ?_
  | ((with_reducible refine' ws_ret ?hlv ?_); (case hlv => walk_at "lv"))
  | ((with_reducible refine' ws_retN ?hlv ?_); (case hlv => walk_at "lv"))
  | ((with_reducible refine' ws_retNew ?hlv ?_); (case hlv => walk_at "lv"))
  | with_reducible refine' ws_iff ?_ | with_reducible refine' ws_nilT ?_ | with_reducible refine' ws_nilL ?_ | with_reducible refine' ws_nilF ?_ | with_reducible refine' ws_nilI ?_
  | with_reducible refine' ws_for ?_ | with_reducible refine' ws_whl ?_
  | ((with_reducible refine' ws_frz ?_); simp only [frzE, List.getElem?_cons_zero, List.getElem?_cons_succ, List.set_cons_zero, List.set_cons_succ])
  | with_reducible refine' ws_fld ?_ | with_reducible refine' ws_app ?_ | with_reducible refine' ws_ext ?_ | with_reducible refine' ws_appop ?_ | with_reducible refine' ws_sub ?_ | with_reducible refine' th_nxt ?_ | with_reducible refine' lo_nxt ?_ | with_reducible refine' lo_cnt ?_ | with_reducible refine' lo_brk ?_ | with_reducible refine' th_brk ?_ | with_reducible refine' th_cnt ?_ | with_reducible refine' ws_brk ?_ | with_reducible refine' ws_cnt ?_
  | ((with_reducible show (chkB _ _ = true ∧ _)); refine' ⟨rfl, ?_⟩)
  | ((with_reducible show (∃ kk ρ' S', PV.int _ = PV.int kk ∧ mutL _ _ _ _ = _ ∧ _)); (first | refine' ⟨_, _, _, rfl, pen_put1 rfl, ?_⟩ | refine' ⟨_, _, _, rfl, pen_put2 rfl, ?_⟩))
  | ((with_reducible refine' br_tt ?_)) | ((with_reducible refine' br_ff ?_))
  | ((with_reducible show (∃ ρ', SetA _ _ _ ρ' ∧ _)); refine' ⟨_, ?hsa, ?_⟩; (case hsa => walk_at "seta"))
  | ((with_reducible show (∃ xs ρ', PV.lst _ = PV.lst xs ∧ SetA _ _ _ ρ' ∧ _)); refine' ⟨_, _, rfl, ?hsa, ?_⟩; (case hsa => walk_at "seta"))
  | ((with_reducible show (∃ s t ρ1 ρ2, slOf _ _ = some s ∧ slOf _ _ = some t ∧ _)); refine' ⟨_, _, _, _, rfl, rfl, ?hsa, ?hsb, ?_⟩; (case hsa => walk_at "seta"); (case hsb => walk_at "seta"))
  | ((with_reducible show (∃ ρ', asgT _ _ _ = some ρ' ∧ _)); refine' ⟨_, ?hsa, ?_⟩; (case hsa => walk_at "asg")))
local macro_rules | `(tactic| walk_at "pw") => `(tactic| repeat (first | walk_at "ps" | walk_at "pe"))
local macro_rules | `(tactic| walk_at "pwd") => `(tactic| repeat (first | walk_at "ps" | walk_at "pe" | walk_at "pd"))
local macro_rules | `(tactic| walk_at "fn") => `(tactic| (refine' w_fnC ?h1 ?h2 ?h3 ?_; (case h1 => exact rfl); (case h2 => exact rfl); (case h3 => (simp only [List.map_cons, List.map_nil, List.replicate, Nat.sub_self, List.append_nil, List.cons_append, List.nil_append]; exact rfl)); show WS _ _ (.cons _ _) _ _ _))
local macro_rules | `(tactic| walk_at "new") => `(tactic| (refine' w_newC ?h0 ?h1 ?h2 ?h3 ?_; (case h0 => exact rfl); (case h1 => exact rfl); (case h2 => exact rfl); (case h3 => (simp only [List.map_cons, List.map_nil, List.replicate, Nat.sub_self, List.append_nil, List.cons_append, List.nil_append]; exact rfl)); show WS _ _ (.cons _ _) _ _ _))

local macro_rules | `(tactic| walk_at "wl") => `(tactic| (refine' wl_cons ?ha ?_; (case ha => walk_at "asg")))
local macro_rules | `(tactic| walk_at "appop") => `(tactic| (refine' ⟨_, _, _, _, _, _, _, rfl, rfl, rfl, rfl, rfl, ?ha, ?hm, ?_⟩; (case ha => walk_at "seta"); (case hm => (refine' mut_own rfl rfl ?hb; (case hb => walk_at "seta")))))
local macro_rules | `(tactic| walk_at "fin") => `(tactic| first | done | exact trivial | exact rfl | (and_intros <;> first | exact rfl | exact trivial))

abbrev cv (b l : List Lt) : PV := .ins 0 ["begin", "lap"] [.tup (b.map lv), .tup (l.map lv)]
theorem is_name (n : Nat) (S : Sto) (x : Str) (c : Nat) (hl : x.length = 1) (hc : x.cps.toList = [c]) (h1 : strLt ⟨#[c]⟩ "a" = false) (h2 : strLt "z" ⟨#[c]⟩ = false) : W ((ca (n+1)).fn 2 [.str x]) S fun v S1 => v = .bl true ∧ S1 = S := by
  walk_at "fn"
  walk_at "pw"
  rw [if_pos (by rw [hl]; decide), show decide ((x.length : Int) ≤ 12) = true by rw [hl]; decide]
  walk_at "pw"
  rw [hc]
  walk_at "pw"
  refine' lc_map (l := [c]) (f := fun c => PV.str ⟨#[c]⟩) (g := fun _ => .bl true) (fun z hz => ?_) ?_
  · rw [List.mem_singleton.mp hz]
    refine' lcF_none ?ha ?_
    case ha => walk_at "asg"
    walk_at "pe"
    rw [h1, h2]
    walk_at "fin"
  · walk_at "pe"
    walk_at "fin"
theorem q_name {n : Nat} {S : Sto} {Q : PV → Sto → Prop} {k : Bool} : W ((cal pg (n+1)).fn 2 [.str (if k then "a" else "b")]) S Q = Q (.bl true) S := by
  cases k
  · exact w_eqn (is_name n S "b" 98 (by decide +kernel) (by decide +kernel) (by decide +kernel) (by decide +kernel))
  · exact w_eqn (is_name n S "a" 97 (by decide +kernel) (by decide +kernel) (by decide +kernel) (by decide +kernel))
theorem q_rising {n : Nat} {S : Sto} {Q : PV → Sto → Prop} {xs : List PV} (h : xs = [] ∨ (∃ x, xs = [.str x]) ∨ xs = [.str "a", .str "b"]) : W ((cal pg (n+1)).fn 4 [.lst xs]) S Q = Q (.bl true) S := by
  refine w_eqn ?_
  walk_at "fn"
  walk_at "pw"
  rcases h with rfl | ⟨x, rfl⟩ | rfl
  · refine' ln_i (by simp only [List.length_zipWith, List.length_cons, List.length_nil, List.drop_nil, List.drop_succ_cons, List.drop_zero]; omega) ?_
    refine' lc_map (l := ([] : List PV)) (f := fun z => z) (g := fun _ => .bl true) (fun z hz => nomatch hz) ?_
    walk_at "pe"
    walk_at "fin"
  · refine' ln_i (by simp only [List.length_zipWith, List.length_cons, List.length_nil, List.drop_nil, List.drop_succ_cons, List.drop_zero]; omega) ?_
    refine' lc_map (l := ([] : List PV)) (f := fun z => z) (g := fun _ => .bl true) (fun z hz => nomatch hz) ?_
    walk_at "pe"
    walk_at "fin"
  · refine' ln_i (by simp only [List.length_zipWith, List.length_cons, List.length_nil, List.drop_nil, List.drop_succ_cons, List.drop_zero]; omega) ?_
    refine' lc_map (l := [PV.tup [.str "a", .str "b"]]) (f := fun z => z) (g := fun _ => .bl true) (fun z hz => ?_) ?_
    · rw [List.mem_singleton.mp hz]
      refine' lcF_none ?ha ?_
      case ha => walk_at "asg"
      walk_at "pe"
      rw [show strLt "a" "b" = true by decide +kernel]
      walk_at "fin"
    · walk_at "pe"
      walk_at "fin"
def lt' : Lt → List Bool
  | .e => []
  | .a => [true]
  | .b => [false]
  | .ab => [true, false]
theorem lv_eq (z : Lt) : lv z = .tup ((lt' z).map fun k => .str (if k then "a" else "b")) := by cases z <;> rfl
theorem q_listL {n : Nat} {S : Sto} {Q : PV → Sto → Prop} {xs : List PV} : W ((cal pg (n+1)).fn 1 [.lst xs]) S Q = Q (.bl true) S := by
  refine w_eqn ?_
  walk_at "fn"
  walk_at "pw"
  walk_at "fin"
theorem q_listT {n : Nat} {S : Sto} {Q : PV → Sto → Prop} {xs : List PV} : W ((cal pg (n+1)).fn 1 [.tup xs]) S Q = Q (.bl true) S := by
  refine w_eqn ?_
  walk_at "fn"
  walk_at "pw"
  walk_at "fin"
theorem q_lot {n : Nat} {S : Sto} {Q : PV → Sto → Prop} {z : Lt} : W ((cal pg (n+2)).fn 5 [lv z]) S Q = Q (.bl true) S := by
  refine w_eqn ?_
  rw [lv_eq]
  walk_at "fn"
  walk_at "pw"
  rw [q_listT]
  walk_at "pw"
  refine' ln_i (by cases z <;> decide) ?_
  refine' lc_map (g := fun _ => .bl true) (fun z hz => ?_) ?_
  · refine' lcF_none ?ha ?_
    case ha => walk_at "asg"
    walk_at "pe"
    rw [q_name]
    walk_at "fin"
  · walk_at "pe"
    rw [q_rising (by cases z <;> simp [lt'])]
    walk_at "fin"
section
variable {n : Nat} {S : Sto} {Q : PV → Sto → Prop} {R : Nat → Sto → Prop} {b l : List Lt} {z : Lt} {xs : List PV} {i lo hi : Int} {p : PV}
theorem x_begin : OP (attP pg "begin" (cv b l)) S Q = Q (.tup (b.map lv)) S := op_by rfl
theorem x_lap : OP (attP pg "lap" (cv b l)) S Q = Q (.tup (l.map lv)) S := op_by rfl
theorem m_day : OP (methP pg "day_at" (cv b l)) S R = R 8 S := op_by rfl
theorem m_sh : OP (methP pg "shifted" (cv b l)) S R = R 9 S := op_by rfl
theorem m_least : OP (methP pg "shortest" (cv b l)) S R = R 10 S := op_by rfl
end
end K51

set_option Elab.async false
set_option linter.all false
set_option maxRecDepth 100000
set_option maxHeartbeats 4000000
namespace K51
open PySem L2 PF PW
local macro_rules | `(tactic| walk_at "lv") => `(tactic| first | with_reducible exact lv_fn | ((with_reducible refine' lv_th ?hl); (case hl => walk_at "lv")) | ((with_reducible refine' lv_lo ?hl); (case hl => walk_at "lv")))
local macro_rules | `(tactic| walk_at "seta") => `(tactic| first | with_reducible exact SetA.z | ((with_reducible refine' SetA.s ?hss); (case hss => walk_at "seta")))
local macro_rules | `(tactic| walk_at "setas") => `(tactic| first | with_reducible exact SetAs.nil | ((with_reducible refine' SetAs.cons ?hsa ?hsb); (case hsa => walk_at "seta"); (case hsb => walk_at "setas")))
local macro_rules | `(tactic| walk_at "wipea") => `(tactic| first | with_reducible exact WipeA.nil | (refine' WipeA.cons ?hwr ?hws; (case hwr => walk_at "wipea"); (case hws => walk_at "seta")))
local macro_rules | `(tactic| walk_at "asg") => `(tactic| first | ((with_reducible refine' asg_nm ?hsa); (case hsa => walk_at "seta")) | ((with_reducible refine' asg_tp ?hsa); (case hsa => walk_at "setas")) | ((with_reducible refine' asg_w ?hw1 ?hw2); (case hw1 => walk_at "wipea"); (case hw2 => walk_at "asg")))
local macro_rules | `(tactic| walk_at "pe") => `(tactic| simp -implicitDefEqProofs (disch := first | omega | with_reducible assumption | (simp only [List.length_map, List.length_append, List.length_cons, List.length_nil, List.length_replicate, List.length_range, List.length_drop, List.length_take]; omega) | exact okNs_ints | ((with_reducible show decide _ = true); decide)) only [PW.w_ret_eq, PW.op_some, PW.op_none, PW.rv_0, PW.rv_s, PW.rb_0, PW.rb_0o, PW.rb_s, PW.ro_0, PW.ro_0o, PW.ro_s, PW.ng_int, PW.bk_bl, PW.ln_ok, PW.iv_lst, PW.iv_tup, PW.iv_str, PW.r1_int, PW.r2_int, PW.zp_lst, PW.en_lst, PW.ti_int, PW.e_cst, PW.e_glb, PW.e_var, PW.e_bor, PW.e_bin, PW.e_neg, PW.e_not, PW.e_and, PW.e_or, PW.e_ite, PW.e_isn, PW.e_notn, PW.e_eq, PW.e_ne, PW.e_lt, PW.e_le, PW.e_gt, PW.e_ge, PW.e_in, PW.e_nin, PW.e_chn, PW.e_tup, PW.e_lst, PW.e_idx, PW.d_lst, PW.d_tup, PW.d_str, PW.d_loc, PW.e_slc, PW.o_none, PW.o_some, PW.e_att, PW.e_atO, PW.e_bif, PW.e_isi, PW.e_call, PW.e_make, PW.e_meth, PW.a_nil, PW.a_cons, PW.t_not, PW.t_and, PW.t_or, PW.tr_bl, PW.tr_int, PW.tr_non, PW.tr_lst, PW.tr_tup, PW.t_cmp, PW.t_chn, PW.t_var, PW.t_bor, PW.t_call, PW.t_meth, PW.t_bif, PW.t_isi, PW.t_idx, PW.t_att, PW.t_atO, PW.t_lc, PW.t_cst, PW.i_val, PW.i_rng1, PW.i_rng2, PW.i_zip, PW.i_enum, PW.e_lc, PW.p_add, PW.p_sub, PW.p_mulR, PW.p_mulL, PW.p_mod, PW.p_div, PW.p_pow, PW.p_catL, PW.p_catT, PW.p_catS, PW.p_rep, PW.c_lt, PW.c_gt, PW.c_le, PW.c_ge, PW.c_ltS, PW.c_eqI, PW.c_neI, PW.c_eqS, PW.c_neS, PW.c_chI, PW.c_chL, PW.c_chS, PW.f_lL, PW.f_lT, PW.f_lS, PW.f_int, PW.f_intB, PW.f_abs, PW.f_tupL, PW.f_tupT, PW.f_lstL, PW.f_lstT, PW.f_max, PW.f_min, PW.f_slcL, PW.f_slcT, PW.s_nil, PW.s_p, PW.s_k, PW.s_d, PW.g_0, PW.g_s, PW.op_bind, PW.x_idxL, PW.x_idxT, PW.x_idxLn, PW.x_idxTn, PW.cut_nn, PW.cut_sn, PW.cut_ns, PW.cut_snN, PW.cut_nsN, PW.pen_get, PW.c_neE, PW.c_eqE, PW.c_neET, PW.c_eqET, PW.x_idxLm, PW.x_idxTm, PW.is_ii, PW.is_ib, PW.is_ss, PW.is_ll, PW.is_lt, PW.is_cc, PW.f_allT, PW.f_sl63, if_true, if_false, Bool.not_true, Bool.not_false, Bool.false_eq_true, decide_eq_true_eq, PF.isNon, Bool.not_eq_true', decide_eq_false_iff_not, reduceIte, List.getD_cons_zero, List.getD_cons_succ, Int.reduceToNat, List.length_cons, List.length_nil, Nat.reduceAdd, Int.cast_ofNat_Int, List.eraseIdx_cons_zero, List.eraseIdx_cons_succ, List.nil_append, List.cons_append, List.append_nil, Bool.true_eq_false, not_true_eq_false, not_false_eq_true, K51.q_listL, K51.q_listT, K51.q_lot, K51.x_begin, K51.x_lap, K51.m_day, K51.m_sh, K51.m_least])
local macro_rules | `(tactic| walk_at "pd") => `(tactic| simp -implicitDefEqProofs (disch := first | omega | exact ⟨by omega, digest_small (by omega)⟩) only [PW.w_ret_eq, PW.op_some, PW.op_none, PW.rv_0, PW.rv_s, PW.rb_0, PW.rb_0o, PW.rb_s, PW.ro_0, PW.ro_0o, PW.ro_s, PW.ng_int, PW.bk_bl, PW.ln_ok, PW.iv_lst, PW.iv_tup, PW.iv_str, PW.r1_int, PW.r2_int, PW.zp_lst, PW.en_lst, PW.ti_int, PW.e_cst, PW.e_glb, PW.e_var, PW.e_bor, PW.e_bin, PW.e_neg, PW.e_not, PW.e_and, PW.e_or, PW.e_ite, PW.e_isn, PW.e_notn, PW.e_eq, PW.e_ne, PW.e_lt, PW.e_le, PW.e_gt, PW.e_ge, PW.e_in, PW.e_nin, PW.e_chn, PW.e_tup, PW.e_lst, PW.e_idx, PW.d_lst, PW.d_tup, PW.d_str, PW.d_loc, PW.e_slc, PW.o_none, PW.o_some, PW.e_att, PW.e_atO, PW.e_bif, PW.e_isi, PW.e_call, PW.e_make, PW.e_meth, PW.a_nil, PW.a_cons, PW.t_not, PW.t_and, PW.t_or, PW.tr_bl, PW.tr_int, PW.tr_non, PW.tr_lst, PW.tr_tup, PW.t_cmp, PW.t_chn, PW.t_var, PW.t_bor, PW.t_call, PW.t_meth, PW.t_bif, PW.t_isi, PW.t_idx, PW.t_att, PW.t_atO, PW.t_lc, PW.t_cst, PW.i_val, PW.i_rng1, PW.i_rng2, PW.i_zip, PW.i_enum, PW.e_lc, PW.p_add, PW.p_sub, PW.p_mulR, PW.p_mulL, PW.p_mod, PW.p_div, PW.p_pow, PW.p_catL, PW.p_catT, PW.p_catS, PW.p_rep, PW.c_lt, PW.c_gt, PW.c_le, PW.c_ge, PW.c_ltS, PW.c_eqI, PW.c_neI, PW.c_eqS, PW.c_neS, PW.c_chI, PW.c_chL, PW.c_chS, PW.f_lL, PW.f_lT, PW.f_lS, PW.f_int, PW.f_intB, PW.f_abs, PW.f_tupL, PW.f_tupT, PW.f_lstL, PW.f_lstT, PW.f_max, PW.f_min, PW.f_slcL, PW.f_slcT, PW.s_nil, PW.s_p, PW.s_k, PW.s_d, PW.g_0, PW.g_s, PW.op_bind, PW.x_idxL, PW.x_idxT, PW.x_idxLn, PW.x_idxTn, PW.cut_nn, PW.cut_sn, PW.cut_ns, PW.cut_snN, PW.cut_nsN, PW.pen_get, PW.c_neE, PW.c_eqE, PW.c_neET, PW.c_eqET, PW.x_idxLm, PW.x_idxTm, PW.is_ii, PW.is_ib, PW.is_ss, PW.is_ll, PW.is_lt, PW.is_cc, PW.f_allT, PW.f_sl63, if_true, if_false, Bool.not_true, Bool.not_false, Bool.false_eq_true, decide_eq_true_eq, PF.isNon, Bool.not_eq_true', decide_eq_false_iff_not, reduceIte, List.getD_cons_zero, List.getD_cons_succ, Int.reduceToNat, List.length_cons, List.length_nil, Nat.reduceAdd, Int.cast_ofNat_Int, List.eraseIdx_cons_zero, List.eraseIdx_cons_succ, List.nil_append, List.cons_append, List.append_nil, Bool.true_eq_false, not_true_eq_false, not_false_eq_true, K51.q_listL, K51.q_listT, K51.q_lot, K51.x_begin, K51.x_lap, K51.m_day, K51.m_sh, K51.m_least])
local macro_rules | `(tactic| walk_at "ps") => `(tactic| first
  | with_reducible refine' ws_set ?_ | with_reducible refine' ws_setO ?_ | with_reducible refine' ws_par ?_ | with_reducible refine' ws_unp ?_ | with_reducible refine' ws_exp ?_ | with_reducible refine' ws_pas ?_
  | ((with_reducible refine' ws_ret ?hlv ?_); (case hlv => walk_at "lv"))
  | ((with_reducible refine' ws_retN ?hlv ?_); (case hlv => walk_at "lv"))
  | ((with_reducible refine' ws_retNew ?hlv ?_); (case hlv => walk_at "lv"))
  | with_reducible refine' ws_iff ?_ | with_reducible refine' ws_nilT ?_ | with_reducible refine' ws_nilL ?_ | with_reducible refine' ws_nilF ?_ | with_reducible refine' ws_nilI ?_
  | with_reducible refine' ws_for ?_ | with_reducible refine' ws_whl ?_
  | ((with_reducible refine' ws_frz ?_); simp only [frzE, List.getElem?_cons_zero, List.getElem?_cons_succ, List.set_cons_zero, List.set_cons_succ])
  | with_reducible refine' ws_fld ?_ | with_reducible refine' ws_app ?_ | with_reducible refine' ws_ext ?_ | with_reducible refine' ws_appop ?_ | with_reducible refine' ws_sub ?_ | with_reducible refine' th_nxt ?_ | with_reducible refine' lo_nxt ?_ | with_reducible refine' lo_cnt ?_ | with_reducible refine' lo_brk ?_ | with_reducible refine' th_brk ?_ | with_reducible refine' th_cnt ?_ | with_reducible refine' ws_brk ?_ | with_reducible refine' ws_cnt ?_
  | ((with_reducible show (chkB _ _ = true ∧ _)); refine' ⟨rfl, ?_⟩)
  | ((with_reducible show (∃ kk ρ' S', PV.int _ = PV.int kk ∧ mutL _ _ _ _ = _ ∧ _)); (first | refine' ⟨_, _, _, rfl, pen_put1 rfl, ?_⟩ | refine' ⟨_, _, _, rfl, pen_put2 rfl, ?_⟩))
  | ((with_reducible refine' br_tt ?_)) | ((with_reducible refine' br_ff ?_))
  | ((with_reducible show (∃ ρ', SetA _ _ _ ρ' ∧ _)); refine' ⟨_, ?hsa, ?_⟩; (case hsa => walk_at "seta"))
  | ((with_reducible show (∃ xs ρ', PV.lst _ = PV.lst xs ∧ SetA _ _ _ ρ' ∧ _)); refine' ⟨_, _, rfl, ?hsa, ?_⟩; (case hsa => walk_at "seta"))
  | ((with_reducible show (∃ s t ρ1 ρ2, slOf _ _ = some s ∧ slOf _ _ = some t ∧ _)); refine' ⟨_, _, _, _, rfl, rfl, ?hsa, ?hsb, ?_⟩; (case hsa => walk_at "seta"); (case hsb => walk_at "seta"))
  | ((with_reducible show (∃ ρ', asgT _ _ _ = some ρ' ∧ _)); refine' ⟨_, ?hsa, ?_⟩; (case hsa => walk_at "asg")))
local macro_rules | `(tactic| walk_at "pw") => `(tactic| repeat (first | walk_at "ps" | walk_at "pe"))
local macro_rules | `(tactic| walk_at "pwd") => `(tactic| repeat (first | walk_at "ps" | walk_at "pe" | walk_at "pd"))
local macro_rules | `(tactic| walk_at "fn") => `(tactic| (refine' w_fnC ?h1 ?h2 ?h3 ?_; (case h1 => exact rfl); (case h2 => exact rfl); (case h3 => (simp only [List.map_cons, List.map_nil, List.replicate, Nat.sub_self, List.append_nil, List.cons_append, List.nil_append]; exact rfl)); show WS _ _ (.cons _ _) _ _ _))
local macro_rules | `(tactic| walk_at "new") => `(tactic| (refine' w_newC ?h0 ?h1 ?h2 ?h3 ?_; (case h0 => exact rfl); (case h1 => exact rfl); (case h2 => exact rfl); (case h3 => (simp only [List.map_cons, List.map_nil, List.replicate, Nat.sub_self, List.append_nil, List.cons_append, List.nil_append]; exact rfl)); show WS _ _ (.cons _ _) _ _ _))

local macro_rules | `(tactic| walk_at "wl") => `(tactic| (refine' wl_cons ?ha ?_; (case ha => walk_at "asg")))
local macro_rules | `(tactic| walk_at "appop") => `(tactic| (refine' ⟨_, _, _, _, _, _, _, rfl, rfl, rfl, rfl, rfl, ?ha, ?hm, ?_⟩; (case ha => walk_at "seta"); (case hm => (refine' mut_own rfl rfl ?hb; (case hb => walk_at "seta")))))
local macro_rules | `(tactic| walk_at "fin") => `(tactic| first | done | exact trivial | exact rfl | (and_intros <;> first | exact rfl | exact trivial))

section
variable {n : Nat} {S : Sto} {Q : PV → Sto → Prop} {R : Nat → Sto → Prop} {b l : List Lt} {z : Lt} {xs : List PV} {i lo hi : Int} {p : Str}
theorem q_int : W ((cal pg (n+1)).fn 0 [.int i]) S Q = Q (.bl true) S := by
  refine w_eqn ?_
  walk_at "fn"
  walk_at "pw"
  walk_at "fin"
theorem q_need (h : lo ≤ i ∧ i ≤ hi) : W ((cal pg (n+2)).fn 3 [.str p, .int i, .int lo, .int hi]) S Q = Q (.int i) S := by
  refine w_eqn ?_
  walk_at "fn"
  walk_at "pw"
  rw [q_int]
  walk_at "pw"
  rw [decide_eq_false (show ¬i < lo by omega)]
  walk_at "pw"
  rw [decide_eq_false (show ¬hi < i by omega)]
  walk_at "pw"
  walk_at "fin"
theorem need_days {x : PV} (h : x = .lst (b.map lv) ∨ x = .tup (b.map lv)) (hb : b.length ≤ 600) : W ((cal pg (n+3)).fn 11 [.str p, x]) S fun v S1 => v = .tup (b.map lv) ∧ S1 = S := by
  have e : ∀ {Q : PV → Sto → Prop}, W ((cal pg (n+2)).fn 1 [x]) S Q = Q (.bl true) S := by
    intro Q
    rcases h with rfl | rfl
    · exact q_listL
    · exact q_listT
  have e2 : ∀ {Q : List PV → Sto → Prop}, IV x S Q = Q (b.map lv) S := by
    intro Q
    rcases h with rfl | rfl
    · exact iv_lst
    · exact iv_tup
  have e3 : ∀ (z : Lt) {Q : PV → Sto → Prop}, OP (bifP .tuple [lv z]) S Q = Q (lv z) S := by
    intro z Q
    cases z <;> exact f_tupT
  walk_at "fn"
  walk_at "pw"
  rw [e]
  walk_at "pw"
  rw [e2]
  walk_at "pw"
  refine' lc_map (g := fun _ => .bl true) (fun z hz => ?_) ?_
  · refine' lcF_none ?ha ?_
    case ha => walk_at "asg"
    walk_at "pe"
    walk_at "fin"
  · walk_at "pw"
    rw [e2]
    walk_at "pw"
    refine' lc_map (g := lv) (fun z hz => ?_) ?_
    · refine' lcF_none ?ha ?_
      case ha => walk_at "asg"
      walk_at "pe"
      rw [e3]
      walk_at "fin"
    · walk_at "pw"
      walk_at "fin"
theorem q_daysL (hb : b.length ≤ 600) : W ((cal pg (n+3)).fn 11 [.str p, .lst (b.map lv)]) S Q = Q (.tup (b.map lv)) S := w_eqn (need_days (.inl rfl) hb)
theorem q_daysT (hb : b.length ≤ 600) : W ((cal pg (n+3)).fn 11 [.str p, .tup (b.map lv)]) S Q = Q (.tup (b.map lv)) S := w_eqn (need_days (.inr rfl) hb)
theorem okNs_lv {n : Nat} {l : List Lt} : okNs (n + 1) (l.map lv) = true := okNs_map fun z _ => by cases z <;> simp [lv, okN, okNs, str_ok]
theorem new_ {x y : PV} (h : x = .lst (b.map lv) ∨ x = .tup (b.map lv)) (h' : y = .lst (l.map lv) ∨ y = .tup (l.map lv)) (hb : b.length ≤ 600) (hl : l.length ≤ 600) (h0 : l ≠ []) : W ((cal pg (n+4)).new 0 [x, y]) S fun v S1 => v = cv b l ∧ S1 = S := by
  walk_at "new"
  walk_at "pw"
  refine' w_imp (need_days h hb) ?_
  rintro _ _ ⟨rfl, rfl⟩
  refine' ⟨_, _, _, _, rfl, rfl, ?hsa, ?_⟩
  case hsa => walk_at "seta"
  show WS pg _ _ (.obj 0 ["begin"] [.tup (b.map lv)] :: _) _ _
  walk_at "pw"
  refine' w_imp (need_days h' hl) ?_
  rintro _ _ ⟨rfl, rfl⟩
  refine' ⟨_, _, _, _, rfl, rfl, ?hsa, ?_⟩
  case hsa => walk_at "seta"
  show WS pg _ _ (.obj 0 ["begin", "lap"] [.tup (b.map lv), .tup (l.map lv)] :: _) _ _
  walk_at "pw"
  rw [c_eqET okNs_lv]
  refine' br_e (fun h => ?_) (fun h => ?_)
  · exact (h0 (List.map_eq_nil_iff.mp h)).elim
  walk_at "pw"
  rw [if_neg (show ¬(600 < ((b.map lv).length : Int)) by rw [List.length_map]; omega), decide_eq_false (show ¬(600 < ((l.map lv).length : Int)) by rw [List.length_map]; omega)]
  walk_at "pw"
  walk_at "fin"
theorem q_newL (hb : b.length ≤ 600 ∧ l.length ≤ 600 ∧ l ≠ []) : W ((cal pg (n+4)).new 0 [.lst (b.map lv), .lst (l.map lv)]) S Q = Q (cv b l) S := w_eqn (new_ (.inl rfl) (.inl rfl) hb.1 hb.2.1 hb.2.2)
theorem q_newT (hb : b.length ≤ 600 ∧ l.length ≤ 600 ∧ l ≠ []) : W ((cal pg (n+4)).new 0 [.tup (b.map lv), .tup (l.map lv)]) S Q = Q (cv b l) S := w_eqn (new_ (.inr rfl) (.inr rfl) hb.1 hb.2.1 hb.2.2)
theorem sqv (h0 : l ≠ []) {d : Int} (h : 1 ≤ d) : (if d ≤ (b.map lv).length then (b.map lv).getD (d - 1).toNat .non else (l.map lv).getD ((d - (b.map lv).length - 1) % (l.map lv).length).toNat .non) = lv (sq .e b l (d - 1).toNat) := by
  have hp := List.length_pos_iff.mpr h0
  simp only [List.length_map]
  by_cases h2 : d ≤ b.length
  · rw [if_pos h2, sq_lt (by omega), getD_map .e (by omega)]
  · rw [if_neg h2, sq_ge (by omega)]
    have e : ((d - b.length - 1) % l.length).toNat = ((d - 1).toNat - b.length) % l.length := by
      have : (d - b.length - 1) = (((d - 1).toNat - b.length : Nat) : Int) := by omega
      rw [this, ← Int.natCast_emod]; rfl
    rw [e, getD_map .e (Nat.mod_lt _ hp)]
theorem q_at {d : Int} (h : 1 ≤ d) (h0 : l ≠ []) : W ((cal pg (n+1)).fn 13 [cv b l, .int d]) S Q = Q (lv (sq .e b l (d - 1).toNat)) S := by
  have hp := List.length_pos_iff.mpr h0
  refine w_eqn ?_
  rw [← sqv h0 h]
  walk_at "fn"
  walk_at "pw"
  refine' br_d (fun h => ?_) (fun h => ?_)
  · walk_at "pw"
    rw [if_pos h]
    walk_at "fin"
  · walk_at "pw"
    rw [if_neg h]
    walk_at "fin"
theorem q_lat {d : Int} (h : 1 ≤ d) (h0 : l ≠ []) : W ((cal pg (n+1)).fn 22 [.lst (b.map lv), .lst (l.map lv), .int d]) S Q = Q (lv (sq .e b l (d - 1).toNat)) S := by
  have hp := List.length_pos_iff.mpr h0
  rw [← sqv h0 h]
  exact w_eqn (lot_atA n S (b.map lv) (l.map lv) d h (by rw [List.length_map]; exact hp))
theorem q_day {d : Int} (h : 1 ≤ d ∧ d ≤ 1000000000000000000000000000000) (h0 : l ≠ []) : W ((cal pg (n+3)).fn 8 [cv b l, .int d]) S Q = Q (lv (sq .e b l (d - 1).toNat)) S := by
  refine w_eqn ?_
  walk_at "fn"
  walk_at "pw"
  rw [q_need h]
  walk_at "pw"
  rw [q_at h.1 h0]
  walk_at "fin"
/-- what the shifted one is -/
def shB (b : List Lt) (d : Int) : List Lt := b.drop d.toNat
def shL (b l : List Lt) (d : Int) : List Lt := if d ≤ b.length then l else l.drop ((d - b.length) % l.length).toNat ++ l.take ((d - b.length) % l.length).toNat
theorem q_sh {d : Int} (h : 0 ≤ d ∧ d ≤ 1000000000000000000000000000000) (hb : b.length ≤ 600 ∧ l.length ≤ 600 ∧ l ≠ []) : W ((cal pg (n+6)).fn 9 [cv b l, .int d]) S Q = Q (cv (shB b d) (shL b l d)) S := by
  have hp := List.length_pos_iff.mpr hb.2.2
  refine w_eqn ?_
  walk_at "fn"
  walk_at "pw"
  rw [q_need h]
  walk_at "pw"
  walk_at "fn"
  walk_at "pw"
  refine' br_d (fun h2 => ?_) (fun h2 => ?_)
  · walk_at "pw"
    rw [← List.map_drop]
    rw [q_newT ⟨by rw [List.length_drop]; omega, hb.2⟩]
    unfold shB shL
    rw [List.length_map] at h2
    rw [if_pos h2]
    walk_at "fin"
  · rw [List.length_map] at h2
    have q1 := Int.emod_nonneg (d - b.length) (b := l.length) (by omega)
    have q2 := Int.emod_lt_of_pos (d - b.length) (b := l.length) (by omega)
    have q3 : 0 ≤ (d - ((b.map lv).length : Int)) % ((l.map lv).length : Int) := by rw [List.length_map, List.length_map]; exact q1
    walk_at "pw"
    rw [← List.map_drop, ← List.map_take, ← List.map_append]
    have e := q_newT (n := n) (S := S) (b := []) (l := l.drop ((d - ((b.map lv).length : Int)) % ((l.map lv).length : Int)).toNat ++ l.take ((d - ((b.map lv).length : Int)) % ((l.map lv).length : Int)).toNat) (Q := fun v S1 => v = cv (shB b d) (shL b l d) ∧ S1 = S) ⟨by simp, by rw [List.length_append, List.length_drop, List.length_take]; omega, by
      intro z
      have := congrArg List.length z
      rw [List.length_append, List.length_drop, List.length_take, List.length_nil] at this
      omega⟩
    rw [show PV.tup [] = .tup (List.map lv []) from rfl, e]
    unfold shB shL
    rw [if_neg h2, List.drop_of_length_le (show b.length ≤ d.toNat by omega), List.length_map, List.length_map]
    walk_at "fin"
theorem sh_len {d : Int} : (shL b l d).length = l.length := by
  unfold shL
  by_cases h : d ≤ b.length
  · rw [if_pos h]
  · rw [if_neg h, List.length_append, List.length_drop, List.length_take]; omega
theorem sh_sq {d : Int} (h : 0 ≤ d) (h0 : l ≠ []) (i : Nat) : sq .e (shB b d) (shL b l d) i = sq .e b l (i + d.toNat) := by
  have hp := List.length_pos_iff.mpr h0
  unfold shB shL
  have gd : ∀ {m : List Lt} {k j : Nat}, (m.drop k).getD j .e = m.getD (k + j) .e := by
    intro m k j
    rw [List.getD_eq_getElem?_getD, List.getElem?_drop, List.getD_eq_getElem?_getD]
  by_cases h2 : d ≤ b.length
  · rw [if_pos h2]
    by_cases h3 : i < (b.drop d.toNat).length
    · rw [sq_lt h3, gd]
      rw [List.length_drop] at h3
      rw [sq_lt (by omega), Nat.add_comm]
    · rw [sq_ge (by omega)]
      rw [List.length_drop] at h3 ⊢
      rw [sq_ge (by omega), show i - (b.length - d.toNat) = i + d.toNat - b.length by omega]
  · rw [if_neg h2, List.drop_of_length_le (show b.length ≤ d.toNat by omega)]
    have e : (d - b.length) = ((d.toNat - b.length : Nat) : Int) := by omega
    rw [e, ← Int.natCast_emod]
    have hk := Nat.mod_lt (d.toNat - b.length) hp
    rw [sq_ge (Nat.zero_le _), sq_ge (by omega)]
    simp only [List.length_nil, Nat.sub_zero, List.length_append, List.length_drop, List.length_take, Int.toNat_natCast]
    generalize hkk : (d.toNat - b.length) % l.length = k at hk ⊢
    rw [show l.length - k + min k l.length = l.length by omega]
    have hi := Nat.mod_lt i hp
    have e2 : (i + d.toNat - b.length) % l.length = (i % l.length + k) % l.length := by
      rw [show i + d.toNat - b.length = i + (d.toNat - b.length) by omega, Nat.add_mod, hkk]
    rw [e2]
    generalize i % l.length = j at hi ⊢
    rw [List.getD_eq_getElem?_getD, List.getD_eq_getElem?_getD]
    by_cases hj : j + k < l.length
    · rw [Nat.mod_eq_of_lt hj, List.getElem?_append_left (by rw [List.length_drop]; omega), List.getElem?_drop, Nat.add_comm]
    · rw [List.getElem?_append_right (by rw [List.length_drop]; omega), List.length_drop, Nat.mod_eq_sub_mod (by omega), Nat.mod_eq_of_lt (by omega), List.getElem?_take_of_lt (by omega)]
      rw [show j - (l.length - k) = j + k - l.length by omega]
end
end K51

set_option Elab.async false
set_option linter.all false
set_option maxRecDepth 100000
set_option maxHeartbeats 4000000
namespace K51
open PySem L2 PF PW
theorem c_neV {C : Calls} {S : Sto} {QB : Bool → Sto → Prop} {x y : Lt} : CM pg C .ne (lv x) (lv y) S QB = QB (!decide (x = y)) S := by
  rw [c_ne ⟨by cases x <;> simp [lv, okN, okNs, str_ok], by cases y <;> simp [lv, okN, okNs, str_ok]⟩]
  congr 2
  cases x <;> cases y <;> first | (simp [lv, eqP, eqPs]; done) | (simp only [lv, eqP, eqPs]; decide +kernel)
theorem eqP_lv (x y : Lt) : eqP (lv x) (lv y) = decide (x = y) := by
  cases x <;> cases y <;> first | (simp [lv, eqP, eqPs]; done) | (simp only [lv, eqP, eqPs]; decide +kernel)
local macro_rules | `(tactic| walk_at "lv") => `(tactic| first | with_reducible exact lv_fn | ((with_reducible refine' lv_th ?hl); (case hl => walk_at "lv")) | ((with_reducible refine' lv_lo ?hl); (case hl => walk_at "lv")))
local macro_rules | `(tactic| walk_at "seta") => `(tactic| first | with_reducible exact SetA.z | ((with_reducible refine' SetA.s ?hss); (case hss => walk_at "seta")))
local macro_rules | `(tactic| walk_at "setas") => `(tactic| first | with_reducible exact SetAs.nil | ((with_reducible refine' SetAs.cons ?hsa ?hsb); (case hsa => walk_at "seta"); (case hsb => walk_at "setas")))
local macro_rules | `(tactic| walk_at "wipea") => `(tactic| first | with_reducible exact WipeA.nil | (refine' WipeA.cons ?hwr ?hws; (case hwr => walk_at "wipea"); (case hws => walk_at "seta")))
local macro_rules | `(tactic| walk_at "asg") => `(tactic| first | ((with_reducible refine' asg_nm ?hsa); (case hsa => walk_at "seta")) | ((with_reducible refine' asg_tp ?hsa); (case hsa => walk_at "setas")) | ((with_reducible refine' asg_w ?hw1 ?hw2); (case hw1 => walk_at "wipea"); (case hw2 => walk_at "asg")))
local macro_rules | `(tactic| walk_at "pe") => `(tactic| simp -implicitDefEqProofs (disch := first | omega | with_reducible assumption | (simp only [List.length_map, List.length_append, List.length_cons, List.length_nil, List.length_replicate, List.length_range, List.length_drop, List.length_take]; omega) | exact okNs_ints | ((with_reducible show decide _ = true); decide)) only [PW.w_ret_eq, PW.op_some, PW.op_none, PW.rv_0, PW.rv_s, PW.rb_0, PW.rb_0o, PW.rb_s, PW.ro_0, PW.ro_0o, PW.ro_s, PW.ng_int, PW.bk_bl, PW.ln_ok, PW.iv_lst, PW.iv_tup, PW.iv_str, PW.r1_int, PW.r2_int, PW.zp_lst, PW.en_lst, PW.ti_int, PW.e_cst, PW.e_glb, PW.e_var, PW.e_bor, PW.e_bin, PW.e_neg, PW.e_not, PW.e_and, PW.e_or, PW.e_ite, PW.e_isn, PW.e_notn, PW.e_eq, PW.e_ne, PW.e_lt, PW.e_le, PW.e_gt, PW.e_ge, PW.e_in, PW.e_nin, PW.e_chn, PW.e_tup, PW.e_lst, PW.e_idx, PW.d_lst, PW.d_tup, PW.d_str, PW.d_loc, PW.e_slc, PW.o_none, PW.o_some, PW.e_att, PW.e_atO, PW.e_bif, PW.e_isi, PW.e_call, PW.e_make, PW.e_meth, PW.a_nil, PW.a_cons, PW.t_not, PW.t_and, PW.t_or, PW.tr_bl, PW.tr_int, PW.tr_non, PW.tr_lst, PW.tr_tup, PW.t_cmp, PW.t_chn, PW.t_var, PW.t_bor, PW.t_call, PW.t_meth, PW.t_bif, PW.t_isi, PW.t_idx, PW.t_att, PW.t_atO, PW.t_lc, PW.t_cst, PW.i_val, PW.i_rng1, PW.i_rng2, PW.i_zip, PW.i_enum, PW.e_lc, PW.p_add, PW.p_sub, PW.p_mulR, PW.p_mulL, PW.p_mod, PW.p_div, PW.p_pow, PW.p_catL, PW.p_catT, PW.p_catS, PW.p_rep, PW.c_lt, PW.c_gt, PW.c_le, PW.c_ge, PW.c_ltS, PW.c_eqI, PW.c_neI, PW.c_eqS, PW.c_neS, PW.c_chI, PW.c_chL, PW.c_chS, PW.f_lL, PW.f_lT, PW.f_lS, PW.f_int, PW.f_intB, PW.f_abs, PW.f_tupL, PW.f_tupT, PW.f_lstL, PW.f_lstT, PW.f_max, PW.f_min, PW.f_slcL, PW.f_slcT, PW.s_nil, PW.s_p, PW.s_k, PW.s_d, PW.g_0, PW.g_s, PW.op_bind, PW.x_idxL, PW.x_idxT, PW.x_idxLn, PW.x_idxTn, PW.cut_nn, PW.cut_sn, PW.cut_ns, PW.cut_snN, PW.cut_nsN, PW.pen_get, PW.c_neE, PW.c_eqE, PW.c_neET, PW.c_eqET, PW.x_idxLm, PW.x_idxTm, PW.is_ii, PW.is_ib, PW.is_ss, PW.is_ll, PW.is_lt, PW.is_cc, PW.f_allT, PW.f_sl63, if_true, if_false, Bool.not_true, Bool.not_false, Bool.false_eq_true, decide_eq_true_eq, PF.isNon, Bool.not_eq_true', decide_eq_false_iff_not, reduceIte, List.getD_cons_zero, List.getD_cons_succ, Int.reduceToNat, List.length_cons, List.length_nil, Nat.reduceAdd, Int.cast_ofNat_Int, List.eraseIdx_cons_zero, List.eraseIdx_cons_succ, List.nil_append, List.cons_append, List.append_nil, Bool.true_eq_false, not_true_eq_false, not_false_eq_true, K51.q_listL, K51.q_listT, K51.q_lot, K51.x_begin, K51.x_lap, K51.m_day, K51.m_sh, K51.m_least, K51.q_lat, K51.q_at, K51.c_neV])
local macro_rules | `(tactic| walk_at "pd") => `(tactic| simp -implicitDefEqProofs (disch := first | omega | exact ⟨by omega, digest_small (by omega)⟩) only [PW.w_ret_eq, PW.op_some, PW.op_none, PW.rv_0, PW.rv_s, PW.rb_0, PW.rb_0o, PW.rb_s, PW.ro_0, PW.ro_0o, PW.ro_s, PW.ng_int, PW.bk_bl, PW.ln_ok, PW.iv_lst, PW.iv_tup, PW.iv_str, PW.r1_int, PW.r2_int, PW.zp_lst, PW.en_lst, PW.ti_int, PW.e_cst, PW.e_glb, PW.e_var, PW.e_bor, PW.e_bin, PW.e_neg, PW.e_not, PW.e_and, PW.e_or, PW.e_ite, PW.e_isn, PW.e_notn, PW.e_eq, PW.e_ne, PW.e_lt, PW.e_le, PW.e_gt, PW.e_ge, PW.e_in, PW.e_nin, PW.e_chn, PW.e_tup, PW.e_lst, PW.e_idx, PW.d_lst, PW.d_tup, PW.d_str, PW.d_loc, PW.e_slc, PW.o_none, PW.o_some, PW.e_att, PW.e_atO, PW.e_bif, PW.e_isi, PW.e_call, PW.e_make, PW.e_meth, PW.a_nil, PW.a_cons, PW.t_not, PW.t_and, PW.t_or, PW.tr_bl, PW.tr_int, PW.tr_non, PW.tr_lst, PW.tr_tup, PW.t_cmp, PW.t_chn, PW.t_var, PW.t_bor, PW.t_call, PW.t_meth, PW.t_bif, PW.t_isi, PW.t_idx, PW.t_att, PW.t_atO, PW.t_lc, PW.t_cst, PW.i_val, PW.i_rng1, PW.i_rng2, PW.i_zip, PW.i_enum, PW.e_lc, PW.p_add, PW.p_sub, PW.p_mulR, PW.p_mulL, PW.p_mod, PW.p_div, PW.p_pow, PW.p_catL, PW.p_catT, PW.p_catS, PW.p_rep, PW.c_lt, PW.c_gt, PW.c_le, PW.c_ge, PW.c_ltS, PW.c_eqI, PW.c_neI, PW.c_eqS, PW.c_neS, PW.c_chI, PW.c_chL, PW.c_chS, PW.f_lL, PW.f_lT, PW.f_lS, PW.f_int, PW.f_intB, PW.f_abs, PW.f_tupL, PW.f_tupT, PW.f_lstL, PW.f_lstT, PW.f_max, PW.f_min, PW.f_slcL, PW.f_slcT, PW.s_nil, PW.s_p, PW.s_k, PW.s_d, PW.g_0, PW.g_s, PW.op_bind, PW.x_idxL, PW.x_idxT, PW.x_idxLn, PW.x_idxTn, PW.cut_nn, PW.cut_sn, PW.cut_ns, PW.cut_snN, PW.cut_nsN, PW.pen_get, PW.c_neE, PW.c_eqE, PW.c_neET, PW.c_eqET, PW.x_idxLm, PW.x_idxTm, PW.is_ii, PW.is_ib, PW.is_ss, PW.is_ll, PW.is_lt, PW.is_cc, PW.f_allT, PW.f_sl63, if_true, if_false, Bool.not_true, Bool.not_false, Bool.false_eq_true, decide_eq_true_eq, PF.isNon, Bool.not_eq_true', decide_eq_false_iff_not, reduceIte, List.getD_cons_zero, List.getD_cons_succ, Int.reduceToNat, List.length_cons, List.length_nil, Nat.reduceAdd, Int.cast_ofNat_Int, List.eraseIdx_cons_zero, List.eraseIdx_cons_succ, List.nil_append, List.cons_append, List.append_nil, Bool.true_eq_false, not_true_eq_false, not_false_eq_true, K51.q_listL, K51.q_listT, K51.q_lot, K51.x_begin, K51.x_lap, K51.m_day, K51.m_sh, K51.m_least, K51.q_lat, K51.q_at, K51.c_neV])
local macro_rules | `(tactic| walk_at "ps") => `(tactic| first
  | with_reducible refine' ws_set ?_ | with_reducible refine' ws_setO ?_ | with_reducible refine' ws_par ?_ | with_reducible refine' ws_unp ?_ | with_reducible refine' ws_exp ?_ | with_reducible refine' ws_pas ?_
  | ((with_reducible refine' ws_ret ?hlv ?_); (case hlv => walk_at "lv"))
  | ((with_reducible refine' ws_retN ?hlv ?_); (case hlv => walk_at "lv"))
  | ((with_reducible refine' ws_retNew ?hlv ?_); (case hlv => walk_at "lv"))
  | with_reducible refine' ws_iff ?_ | with_reducible refine' ws_nilT ?_ | with_reducible refine' ws_nilL ?_ | with_reducible refine' ws_nilF ?_ | with_reducible refine' ws_nilI ?_
  | with_reducible refine' ws_for ?_ | with_reducible refine' ws_whl ?_
  | ((with_reducible refine' ws_frz ?_); simp only [frzE, List.getElem?_cons_zero, List.getElem?_cons_succ, List.set_cons_zero, List.set_cons_succ])
  | with_reducible refine' ws_fld ?_ | with_reducible refine' ws_app ?_ | with_reducible refine' ws_ext ?_ | with_reducible refine' ws_appop ?_ | with_reducible refine' ws_sub ?_ | with_reducible refine' th_nxt ?_ | with_reducible refine' lo_nxt ?_ | with_reducible refine' lo_cnt ?_ | with_reducible refine' lo_brk ?_ | with_reducible refine' th_brk ?_ | with_reducible refine' th_cnt ?_ | with_reducible refine' ws_brk ?_ | with_reducible refine' ws_cnt ?_
  | ((with_reducible show (chkB _ _ = true ∧ _)); refine' ⟨rfl, ?_⟩)
  | ((with_reducible show (∃ kk ρ' S', PV.int _ = PV.int kk ∧ mutL _ _ _ _ = _ ∧ _)); (first | refine' ⟨_, _, _, rfl, pen_put1 rfl, ?_⟩ | refine' ⟨_, _, _, rfl, pen_put2 rfl, ?_⟩))
  | ((with_reducible refine' br_tt ?_)) | ((with_reducible refine' br_ff ?_))
  | ((with_reducible show (∃ ρ', SetA _ _ _ ρ' ∧ _)); refine' ⟨_, ?hsa, ?_⟩; (case hsa => walk_at "seta"))
  | ((with_reducible show (∃ xs ρ', PV.lst _ = PV.lst xs ∧ SetA _ _ _ ρ' ∧ _)); refine' ⟨_, _, rfl, ?hsa, ?_⟩; (case hsa => walk_at "seta"))
  | ((with_reducible show (∃ s t ρ1 ρ2, slOf _ _ = some s ∧ slOf _ _ = some t ∧ _)); refine' ⟨_, _, _, _, rfl, rfl, ?hsa, ?hsb, ?_⟩; (case hsa => walk_at "seta"); (case hsb => walk_at "seta"))
  | ((with_reducible show (∃ ρ', asgT _ _ _ = some ρ' ∧ _)); refine' ⟨_, ?hsa, ?_⟩; (case hsa => walk_at "asg")))
local macro_rules | `(tactic| walk_at "pw") => `(tactic| repeat (first | walk_at "ps" | walk_at "pe"))
local macro_rules | `(tactic| walk_at "pwd") => `(tactic| repeat (first | walk_at "ps" | walk_at "pe" | walk_at "pd"))
local macro_rules | `(tactic| walk_at "fn") => `(tactic| (refine' w_fnC ?h1 ?h2 ?h3 ?_; (case h1 => exact rfl); (case h2 => exact rfl); (case h3 => (simp only [List.map_cons, List.map_nil, List.replicate, Nat.sub_self, List.append_nil, List.cons_append, List.nil_append]; exact rfl)); show WS _ _ (.cons _ _) _ _ _))
local macro_rules | `(tactic| walk_at "new") => `(tactic| (refine' w_newC ?h0 ?h1 ?h2 ?h3 ?_; (case h0 => exact rfl); (case h1 => exact rfl); (case h2 => exact rfl); (case h3 => (simp only [List.map_cons, List.map_nil, List.replicate, Nat.sub_self, List.append_nil, List.cons_append, List.nil_append]; exact rfl)); show WS _ _ (.cons _ _) _ _ _))

local macro_rules | `(tactic| walk_at "wl") => `(tactic| (refine' wl_cons ?ha ?_; (case ha => walk_at "asg")))
local macro_rules | `(tactic| walk_at "appop") => `(tactic| (refine' ⟨_, _, _, _, _, _, _, rfl, rfl, rfl, rfl, rfl, ?ha, ?hm, ?_⟩; (case ha => walk_at "seta"); (case hm => (refine' mut_own rfl rfl ?hb; (case hb => walk_at "seta")))))
local macro_rules | `(tactic| walk_at "fin") => `(tactic| first | done | exact trivial | exact rfl | (and_intros <;> first | exact rfl | exact trivial))

section
variable {n : Nat} {S : Sto} {Q : PV → Sto → Prop} {R : Nat → Sto → Prop} {b l f a : List Lt} {z : Lt} {xs : List PV} {i lo hi : Int} {p : Str}
def sameN (b l f a : List Lt) : Nat := max b.length f.length + l.length * a.length
def sameB (b l f a : List Lt) : Bool := decide (∀ i, i < sameN b l f a → sq .e b l i = sq .e f a i)
theorem sameB_iff (h1 : l ≠ []) (h2 : a ≠ []) : sameB b l f a = true ↔ ∀ i, sq .e b l i = sq .e f a i := by
  have p1 := List.length_pos_iff.mpr h1
  have p2 := List.length_pos_iff.mpr h2
  unfold sameB sameN
  rw [decide_eq_true_eq]
  refine ⟨fun h => per.ext (N := max b.length f.length) (c := l.length * a.length) (Nat.mul_pos p1 p2) ?_ ?_ h, fun h i _ => h i⟩
  · exact ((sq_per .e b l).up (M := max b.length f.length) (by omega)).dvd ⟨a.length, rfl⟩
  · exact ((sq_per .e f a).up (M := max b.length f.length) (by omega)).dvd ⟨l.length, Nat.mul_comm _ _⟩
theorem q_same (hl : l ≠ [] ∧ l.length ≤ 600 ∧ b.length ≤ 600) (ha : a ≠ [] ∧ a.length ≤ 600 ∧ f.length ≤ 600) : W ((cal pg (n+2)).fn 26 [.lst (b.map lv), .lst (l.map lv), .lst (f.map lv), .lst (a.map lv)]) S Q = Q (.bl (sameB b l f a)) S := by
  refine w_eqn ?_
  have hq : ((l.map lv).length : Int) * ((a.map lv).length : Int) ≤ 600 * 600 := by
    simp only [List.length_map]
    exact Int.mul_le_mul (by omega) (by omega) (by omega) (by omega)
  have hq0 : 0 ≤ ((l.map lv).length : Int) * ((a.map lv).length : Int) := Int.mul_nonneg (by omega) (by omega)
  have hb : ((b.map lv).length : Int) ≤ 600 := by rw [List.length_map]; omega
  have hf : ((f.map lv).length : Int) ≤ 600 := by rw [List.length_map]; omega
  have hbd : (if ((f.map lv).length : Int) > ((b.map lv).length : Int) then ((f.map lv).length : Int) else ((b.map lv).length : Int)) ≤ 600 ∧ 0 ≤ (if ((f.map lv).length : Int) > ((b.map lv).length : Int) then ((f.map lv).length : Int) else ((b.map lv).length : Int)) := by split <;> omega
  walk_at "fn"
  walk_at "pw"
  refine' wl_byL (fun pre ρ S' => S' = S ∧ (∃ s, ρ = [.val (.lst (b.map lv)), .val (.lst (l.map lv)), .val (.lst (f.map lv)), .val (.lst (a.map lv)), s]) ∧ ∀ i ∈ pre, sq .e b l i = sq .e f a i) ⟨rfl, ⟨_, rfl⟩, fun i h => nomatch h⟩ ?_ ?_
  · rintro pre x post ρ S' e ⟨rfl, ⟨s, rfl⟩, hp⟩
    refine' ⟨_, ?ha, ?_⟩
    case ha => walk_at "asg"
    have hx : x < sameN b l f a := by
      have : x ∈ List.range ((if ((f.map lv).length : Int) > ((b.map lv).length : Int) then ((f.map lv).length : Int) else ((b.map lv).length : Int)) + ((l.map lv).length : Int) * ((a.map lv).length : Int) + 1 - 1).toNat := by
        rw [e]; exact List.mem_append_right _ (List.mem_cons_self ..)
      have := List.mem_range.mp this
      simp only [List.length_map] at this
      unfold sameN
      rw [← Int.natCast_mul] at this
      generalize l.length * a.length = q at this ⊢
      split at this <;> omega
    have e1 : (1 + (x : Int) - 1).toNat = x := by omega
    walk_at "pw"
    rw [q_lat (by omega) hl.1]
    walk_at "pw"
    rw [q_lat (by omega) ha.1]
    walk_at "pw"
    rw [e1]
    refine' br_n (br_d (fun h => ?_) (fun h => ?_))
    · walk_at "pw"
      refine' ⟨trivial, ⟨_, rfl⟩, fun i hi => ?_⟩
      rcases List.mem_append.mp hi with hi | hi
      · exact hp i hi
      · rw [List.mem_singleton.mp hi]; exact h
    · walk_at "pw"
      refine' ⟨?_, trivial⟩
      rw [show sameB b l f a = false from decide_eq_false fun k => h (k x hx)]
  · rintro ρ S' ⟨rfl, ⟨s, rfl⟩, hp⟩
    walk_at "pw"
    refine' ⟨?_, trivial⟩
    rw [show sameB b l f a = true from decide_eq_true fun i hi => hp i (List.mem_range.mpr ?_)]
    simp only [List.length_map]
    unfold sameN at hi
    rw [← Int.natCast_mul]
    generalize l.length * a.length = q at hi ⊢
    split <;> omega
end
end K51

set_option Elab.async false
set_option linter.all false
set_option maxRecDepth 100000
set_option maxHeartbeats 4000000
namespace K51
open PySem L2 PF PW
local macro_rules | `(tactic| walk_at "lv") => `(tactic| first | with_reducible exact lv_fn | ((with_reducible refine' lv_th ?hl); (case hl => walk_at "lv")) | ((with_reducible refine' lv_lo ?hl); (case hl => walk_at "lv")))
local macro_rules | `(tactic| walk_at "seta") => `(tactic| first | with_reducible exact SetA.z | ((with_reducible refine' SetA.s ?hss); (case hss => walk_at "seta")))
local macro_rules | `(tactic| walk_at "setas") => `(tactic| first | with_reducible exact SetAs.nil | ((with_reducible refine' SetAs.cons ?hsa ?hsb); (case hsa => walk_at "seta"); (case hsb => walk_at "setas")))
local macro_rules | `(tactic| walk_at "wipea") => `(tactic| first | with_reducible exact WipeA.nil | (refine' WipeA.cons ?hwr ?hws; (case hwr => walk_at "wipea"); (case hws => walk_at "seta")))
local macro_rules | `(tactic| walk_at "asg") => `(tactic| first | ((with_reducible refine' asg_nm ?hsa); (case hsa => walk_at "seta")) | ((with_reducible refine' asg_tp ?hsa); (case hsa => walk_at "setas")) | ((with_reducible refine' asg_w ?hw1 ?hw2); (case hw1 => walk_at "wipea"); (case hw2 => walk_at "asg")))
local macro_rules | `(tactic| walk_at "pe") => `(tactic| simp -implicitDefEqProofs (disch := first | omega | with_reducible assumption | (simp only [List.length_map, List.length_append, List.length_cons, List.length_nil, List.length_replicate, List.length_range, List.length_drop, List.length_take]; omega) | exact okNs_ints | ((with_reducible show decide _ = true); decide)) only [PW.w_ret_eq, PW.op_some, PW.op_none, PW.rv_0, PW.rv_s, PW.rb_0, PW.rb_0o, PW.rb_s, PW.ro_0, PW.ro_0o, PW.ro_s, PW.ng_int, PW.bk_bl, PW.ln_ok, PW.iv_lst, PW.iv_tup, PW.iv_str, PW.r1_int, PW.r2_int, PW.zp_lst, PW.en_lst, PW.ti_int, PW.e_cst, PW.e_glb, PW.e_var, PW.e_bor, PW.e_bin, PW.e_neg, PW.e_not, PW.e_and, PW.e_or, PW.e_ite, PW.e_isn, PW.e_notn, PW.e_eq, PW.e_ne, PW.e_lt, PW.e_le, PW.e_gt, PW.e_ge, PW.e_in, PW.e_nin, PW.e_chn, PW.e_tup, PW.e_lst, PW.e_idx, PW.d_lst, PW.d_tup, PW.d_str, PW.d_loc, PW.e_slc, PW.o_none, PW.o_some, PW.e_att, PW.e_atO, PW.e_bif, PW.e_isi, PW.e_call, PW.e_make, PW.e_meth, PW.a_nil, PW.a_cons, PW.t_not, PW.t_and, PW.t_or, PW.tr_bl, PW.tr_int, PW.tr_non, PW.tr_lst, PW.tr_tup, PW.t_cmp, PW.t_chn, PW.t_var, PW.t_bor, PW.t_call, PW.t_meth, PW.t_bif, PW.t_isi, PW.t_idx, PW.t_att, PW.t_atO, PW.t_lc, PW.t_cst, PW.i_val, PW.i_rng1, PW.i_rng2, PW.i_zip, PW.i_enum, PW.e_lc, PW.p_add, PW.p_sub, PW.p_mulR, PW.p_mulL, PW.p_mod, PW.p_div, PW.p_pow, PW.p_catL, PW.p_catT, PW.p_catS, PW.p_rep, PW.c_lt, PW.c_gt, PW.c_le, PW.c_ge, PW.c_ltS, PW.c_eqI, PW.c_neI, PW.c_eqS, PW.c_neS, PW.c_chI, PW.c_chL, PW.c_chS, PW.f_lL, PW.f_lT, PW.f_lS, PW.f_int, PW.f_intB, PW.f_abs, PW.f_tupL, PW.f_tupT, PW.f_lstL, PW.f_lstT, PW.f_max, PW.f_min, PW.f_slcL, PW.f_slcT, PW.s_nil, PW.s_p, PW.s_k, PW.s_d, PW.g_0, PW.g_s, PW.op_bind, PW.x_idxL, PW.x_idxT, PW.x_idxLn, PW.x_idxTn, PW.cut_nn, PW.cut_sn, PW.cut_ns, PW.cut_snN, PW.cut_nsN, PW.pen_get, PW.c_neE, PW.c_eqE, PW.c_neET, PW.c_eqET, PW.x_idxLm, PW.x_idxTm, PW.is_ii, PW.is_ib, PW.is_ss, PW.is_ll, PW.is_lt, PW.is_cc, PW.f_allT, PW.f_sl63, if_true, if_false, Bool.not_true, Bool.not_false, Bool.false_eq_true, decide_eq_true_eq, PF.isNon, Bool.not_eq_true', decide_eq_false_iff_not, reduceIte, List.getD_cons_zero, List.getD_cons_succ, Int.reduceToNat, List.length_cons, List.length_nil, Nat.reduceAdd, Int.cast_ofNat_Int, List.eraseIdx_cons_zero, List.eraseIdx_cons_succ, List.nil_append, List.cons_append, List.append_nil, Bool.true_eq_false, not_true_eq_false, not_false_eq_true, K51.x_begin, K51.x_lap, K51.c_neV])
local macro_rules | `(tactic| walk_at "pd") => `(tactic| simp -implicitDefEqProofs (disch := first | omega | exact ⟨by omega, digest_small (by omega)⟩) only [PW.w_ret_eq, PW.op_some, PW.op_none, PW.rv_0, PW.rv_s, PW.rb_0, PW.rb_0o, PW.rb_s, PW.ro_0, PW.ro_0o, PW.ro_s, PW.ng_int, PW.bk_bl, PW.ln_ok, PW.iv_lst, PW.iv_tup, PW.iv_str, PW.r1_int, PW.r2_int, PW.zp_lst, PW.en_lst, PW.ti_int, PW.e_cst, PW.e_glb, PW.e_var, PW.e_bor, PW.e_bin, PW.e_neg, PW.e_not, PW.e_and, PW.e_or, PW.e_ite, PW.e_isn, PW.e_notn, PW.e_eq, PW.e_ne, PW.e_lt, PW.e_le, PW.e_gt, PW.e_ge, PW.e_in, PW.e_nin, PW.e_chn, PW.e_tup, PW.e_lst, PW.e_idx, PW.d_lst, PW.d_tup, PW.d_str, PW.d_loc, PW.e_slc, PW.o_none, PW.o_some, PW.e_att, PW.e_atO, PW.e_bif, PW.e_isi, PW.e_call, PW.e_make, PW.e_meth, PW.a_nil, PW.a_cons, PW.t_not, PW.t_and, PW.t_or, PW.tr_bl, PW.tr_int, PW.tr_non, PW.tr_lst, PW.tr_tup, PW.t_cmp, PW.t_chn, PW.t_var, PW.t_bor, PW.t_call, PW.t_meth, PW.t_bif, PW.t_isi, PW.t_idx, PW.t_att, PW.t_atO, PW.t_lc, PW.t_cst, PW.i_val, PW.i_rng1, PW.i_rng2, PW.i_zip, PW.i_enum, PW.e_lc, PW.p_add, PW.p_sub, PW.p_mulR, PW.p_mulL, PW.p_mod, PW.p_div, PW.p_pow, PW.p_catL, PW.p_catT, PW.p_catS, PW.p_rep, PW.c_lt, PW.c_gt, PW.c_le, PW.c_ge, PW.c_ltS, PW.c_eqI, PW.c_neI, PW.c_eqS, PW.c_neS, PW.c_chI, PW.c_chL, PW.c_chS, PW.f_lL, PW.f_lT, PW.f_lS, PW.f_int, PW.f_intB, PW.f_abs, PW.f_tupL, PW.f_tupT, PW.f_lstL, PW.f_lstT, PW.f_max, PW.f_min, PW.f_slcL, PW.f_slcT, PW.s_nil, PW.s_p, PW.s_k, PW.s_d, PW.g_0, PW.g_s, PW.op_bind, PW.x_idxL, PW.x_idxT, PW.x_idxLn, PW.x_idxTn, PW.cut_nn, PW.cut_sn, PW.cut_ns, PW.cut_snN, PW.cut_nsN, PW.pen_get, PW.c_neE, PW.c_eqE, PW.c_neET, PW.c_eqET, PW.x_idxLm, PW.x_idxTm, PW.is_ii, PW.is_ib, PW.is_ss, PW.is_ll, PW.is_lt, PW.is_cc, PW.f_allT, PW.f_sl63, if_true, if_false, Bool.not_true, Bool.not_false, Bool.false_eq_true, decide_eq_true_eq, PF.isNon, Bool.not_eq_true', decide_eq_false_iff_not, reduceIte, List.getD_cons_zero, List.getD_cons_succ, Int.reduceToNat, List.length_cons, List.length_nil, Nat.reduceAdd, Int.cast_ofNat_Int, List.eraseIdx_cons_zero, List.eraseIdx_cons_succ, List.nil_append, List.cons_append, List.append_nil, Bool.true_eq_false, not_true_eq_false, not_false_eq_true, K51.x_begin, K51.x_lap, K51.c_neV])
local macro_rules | `(tactic| walk_at "ps") => `(tactic| first
  | with_reducible refine' ws_set ?_ | with_reducible refine' ws_setO ?_ | with_reducible refine' ws_par ?_ | with_reducible refine' ws_unp ?_ | with_reducible refine' ws_exp ?_ | with_reducible refine' ws_pas ?_
  | ((with_reducible refine' ws_ret ?hlv ?_); (case hlv => walk_at "lv"))
  | ((with_reducible refine' ws_retN ?hlv ?_); (case hlv => walk_at "lv"))
  | ((with_reducible refine' ws_retNew ?hlv ?_); (case hlv => walk_at "lv"))
  | with_reducible refine' ws_iff ?_ | with_reducible refine' ws_nilT ?_ | with_reducible refine' ws_nilL ?_ | with_reducible refine' ws_nilF ?_ | with_reducible refine' ws_nilI ?_
  | with_reducible refine' ws_for ?_ | with_reducible refine' ws_whl ?_
  | ((with_reducible refine' ws_frz ?_); simp only [frzE, List.getElem?_cons_zero, List.getElem?_cons_succ, List.set_cons_zero, List.set_cons_succ])
  | with_reducible refine' ws_fld ?_ | with_reducible refine' ws_app ?_ | with_reducible refine' ws_ext ?_ | with_reducible refine' ws_appop ?_ | with_reducible refine' ws_sub ?_ | with_reducible refine' th_nxt ?_ | with_reducible refine' lo_nxt ?_ | with_reducible refine' lo_cnt ?_ | with_reducible refine' lo_brk ?_ | with_reducible refine' th_brk ?_ | with_reducible refine' th_cnt ?_ | with_reducible refine' ws_brk ?_ | with_reducible refine' ws_cnt ?_
  | ((with_reducible show (chkB _ _ = true ∧ _)); refine' ⟨rfl, ?_⟩)
  | ((with_reducible show (∃ kk ρ' S', PV.int _ = PV.int kk ∧ mutL _ _ _ _ = _ ∧ _)); (first | refine' ⟨_, _, _, rfl, pen_put1 rfl, ?_⟩ | refine' ⟨_, _, _, rfl, pen_put2 rfl, ?_⟩))
  | ((with_reducible refine' br_tt ?_)) | ((with_reducible refine' br_ff ?_))
  | ((with_reducible show (∃ ρ', SetA _ _ _ ρ' ∧ _)); refine' ⟨_, ?hsa, ?_⟩; (case hsa => walk_at "seta"))
  | ((with_reducible show (∃ xs ρ', PV.lst _ = PV.lst xs ∧ SetA _ _ _ ρ' ∧ _)); refine' ⟨_, _, rfl, ?hsa, ?_⟩; (case hsa => walk_at "seta"))
  | ((with_reducible show (∃ s t ρ1 ρ2, slOf _ _ = some s ∧ slOf _ _ = some t ∧ _)); refine' ⟨_, _, _, _, rfl, rfl, ?hsa, ?hsb, ?_⟩; (case hsa => walk_at "seta"); (case hsb => walk_at "seta"))
  | ((with_reducible show (∃ ρ', asgT _ _ _ = some ρ' ∧ _)); refine' ⟨_, ?hsa, ?_⟩; (case hsa => walk_at "asg")))
local macro_rules | `(tactic| walk_at "pw") => `(tactic| repeat (first | walk_at "ps" | walk_at "pe"))
local macro_rules | `(tactic| walk_at "pwd") => `(tactic| repeat (first | walk_at "ps" | walk_at "pe" | walk_at "pd"))
local macro_rules | `(tactic| walk_at "fn") => `(tactic| (refine' w_fnC ?h1 ?h2 ?h3 ?_; (case h1 => exact rfl); (case h2 => exact rfl); (case h3 => (simp only [List.map_cons, List.map_nil, List.replicate, Nat.sub_self, List.append_nil, List.cons_append, List.nil_append]; exact rfl)); show WS _ _ (.cons _ _) _ _ _))
local macro_rules | `(tactic| walk_at "new") => `(tactic| (refine' w_newC ?h0 ?h1 ?h2 ?h3 ?_; (case h0 => exact rfl); (case h1 => exact rfl); (case h2 => exact rfl); (case h3 => (simp only [List.map_cons, List.map_nil, List.replicate, Nat.sub_self, List.append_nil, List.cons_append, List.nil_append]; exact rfl)); show WS _ _ (.cons _ _) _ _ _))

local macro_rules | `(tactic| walk_at "wl") => `(tactic| (refine' wl_cons ?ha ?_; (case ha => walk_at "asg")))
local macro_rules | `(tactic| walk_at "appop") => `(tactic| (refine' ⟨_, _, _, _, _, _, _, rfl, rfl, rfl, rfl, rfl, ?ha, ?hm, ?_⟩; (case ha => walk_at "seta"); (case hm => (refine' mut_own rfl rfl ?hb; (case hb => walk_at "seta")))))
local macro_rules | `(tactic| walk_at "fin") => `(tactic| first | done | exact trivial | exact rfl | (and_intros <;> first | exact rfl | exact trivial))

section
variable {n : Nat} {S : Sto} {Q : PV → Sto → Prop} {R : Nat → Sto → Prop} {b l f a : List Lt} {z : Lt} {xs : List PV} {i lo hi : Int} {p : Str}
def fst (b l : List Lt) (k : Nat) : List Lt := (List.range k).map (sq .e b l)
def ag (b l : List Lt) (k m : Nat) : List Lt := (List.range m).map fun j => sq .e b l (k + j)
theorem least_ (hl : l ≠ [] ∧ l.length ≤ 300 ∧ b.length ≤ 300) : W ((cal pg (n+3)).fn 27 [.lst (b.map lv), .lst (l.map lv)]) S fun v S1 => (∃ f a, v = .tup [.lst (f.map lv), .lst (a.map lv)] ∧ Least .e (sq .e b l) f a ∧ f.length ≤ b.length + l.length ∧ a.length ≤ l.length) ∧ S1 = S := by
  have hp := List.length_pos_iff.mpr hl.1
  walk_at "fn"
  walk_at "pw"
  refine' wl_rng (fun m ρ S' => S' = S ∧ (∃ s2 s3 s4 s5 s6, ρ = [.val (.lst (b.map lv)), .val (.lst (l.map lv)), s2, s3, s4, s5, s6]) ∧ ∀ m' < m, ∀ k ≤ b.length + l.length, ¬∀ i, sq .e (fst b l k) (ag b l k (m' + 1)) i = sq .e b l i) ⟨rfl, ⟨_, _, _, _, _, rfl⟩, fun m h => nomatch h⟩ ?_ ?_
  · rintro m ρ S' hm ⟨rfl, ⟨s2, s3, s4, s5, s6, rfl⟩, ho⟩
    have hm' : m < l.length := by simp only [List.length_map] at hm; omega
    refine' ⟨_, ?ha, ?_⟩
    case ha => walk_at "asg"
    walk_at "pw"
    refine' wl_rng (fun k ρ S'' => S'' = S' ∧ (∃ s3 s4 s5 s6, ρ = [.val (.lst (b.map lv)), .val (.lst (l.map lv)), .val (.int (1 + m)), s3, s4, s5, s6]) ∧ ∀ k' < k, ¬∀ i, sq .e (fst b l k') (ag b l k' (m + 1)) i = sq .e b l i) ⟨rfl, ⟨_, _, _, _, rfl⟩, fun m h => nomatch h⟩ ?_ ?_
    · rintro k ρ S'' hk ⟨rfl, ⟨s3, s4, s5, s6, rfl⟩, hi⟩
      have hk' : k ≤ b.length + l.length := by simp only [List.length_map] at hk; omega
      refine' ⟨_, ?ha, ?_⟩
      case ha => walk_at "asg"
      walk_at "pw"
      refine' lc_map (g := fun j => lv (sq .e b l j)) (fun j hj => ?_) ?_
      · refine' lcF_none ?ha ?_
        case ha => walk_at "asg"
        walk_at "pe"
        rw [q_lat (by omega) hl.1, show (1 + (j : Int) - 1).toNat = j by omega]
        walk_at "fin"
      walk_at "pw"
      refine' lc_map (g := fun j => lv (sq .e b l (k + j))) (fun j hj => ?_) ?_
      · refine' lcF_none ?ha ?_
        case ha => walk_at "asg"
        walk_at "pe"
        rw [q_lat (by omega) hl.1, show ((k : Int) + 1 + (j : Int) - 1).toNat = k + j by omega]
        walk_at "fin"
      walk_at "pw"
      rw [show (List.range ((k : Int) + 1 - 1).toNat).map (fun j => lv (sq .e b l j)) = (fst b l k).map lv by
        unfold fst; rw [List.map_map, show ((k : Int) + 1 - 1).toNat = k by omega]; rfl]
      rw [show (List.range ((k : Int) + (1 + m) + 1 - (k + 1)).toNat).map (fun j => lv (sq .e b l (k + j))) = (ag b l k (m + 1)).map lv by
        unfold ag; rw [List.map_map, show ((k : Int) + (1 + m) + 1 - (k + 1)).toNat = m + 1 by omega]; rfl]
      have hf : (fst b l k).length = k := by unfold fst; rw [List.length_map, List.length_range]
      have hg : (ag b l k (m + 1)).length = m + 1 := by unfold ag; rw [List.length_map, List.length_range]
      have hg0 : ag b l k (m + 1) ≠ [] := fun z => by rw [z] at hg; simp at hg
      rw [q_same ⟨hl.1, by omega, by omega⟩ ⟨hg0, by omega, by omega⟩]
      walk_at "pw"
      refine' br_k (fun h => ?_) (fun h => ?_)
      · have hs := (sameB_iff hl.1 hg0).mp h
        walk_at "pw"
        refine' ⟨⟨_, _, rfl, ⟨by omega, fun i => (hs i).symm, fun N p hp0 hper => ?_, fun N hper => ?_⟩, by omega, by omega⟩, trivial⟩
        · rw [hg]
          refine Nat.le_of_not_lt fun hlt => ho (p - 1) (by omega) b.length (by omega) fun i => ?_
          have := sq_of (d := Lt.e) hp0 (per_down (N := b.length) hp (sq_per .e b l) hper) i
          rw [show p - 1 + 1 = p by omega]
          exact this
        · rw [hf]
          rw [hg] at hper
          exact Nat.le_of_not_lt fun hlt => hi N hlt fun i => sq_of (d := Lt.e) (by omega) hper i
      · walk_at "pw"
        refine' ⟨trivial, ⟨_, _, _, _, rfl⟩, fun k' hk2 => ?_⟩
        by_cases e : k' < k
        · exact hi k' e
        · have : k' = k := by omega
          subst this
          intro z
          rw [(sameB_iff hl.1 hg0).mpr fun i => (z i).symm] at h
          cases h
    · rintro ρ S'' ⟨rfl, ⟨s3, s4, s5, s6, rfl⟩, hi⟩
      walk_at "pw"
      refine' ⟨trivial, ⟨_, _, _, _, _, rfl⟩, fun m' hm2 k hk => ?_⟩
      by_cases e : m' < m
      · exact ho m' e k hk
      · have : m' = m := by omega
        subst this
        exact hi k (by simp only [List.length_map]; omega)
  · rintro ρ S' ⟨rfl, ⟨s2, s3, s4, s5, s6, rfl⟩, ho⟩
    exfalso
    refine ho (l.length - 1) (by simp only [List.length_map]; omega) b.length (by omega) fun i => ?_
    have := sq_of (d := Lt.e) hp (sq_per .e b l) i
    rw [show l.length - 1 + 1 = l.length by omega]
    exact this
end
end K51

set_option Elab.async false
set_option linter.all false
set_option maxRecDepth 100000
set_option maxHeartbeats 4000000
namespace K51
open PySem L2 PF PW
theorem c_eqVL {C : Calls} {S : Sto} {QB : Bool → Sto → Prop} {x y : List Lt} : CM pg C .eq (.lst (x.map lv)) (.lst (y.map lv)) S QB = QB (decide (x = y)) S := by
  rw [c_eq ⟨okL okNs_lv, okL okNs_lv⟩, eqP_L, eqPs_map eqP_lv]
theorem c_eqV {C : Calls} {S : Sto} {QB : Bool → Sto → Prop} {x y : Lt} : CM pg C .eq (lv x) (lv y) S QB = QB (decide (x = y)) S := by
  rw [c_eq ⟨by cases x <;> simp [lv, okN, okNs, str_ok], by cases y <;> simp [lv, okN, okNs, str_ok]⟩, eqP_lv]
local macro_rules | `(tactic| walk_at "lv") => `(tactic| first | with_reducible exact lv_fn | ((with_reducible refine' lv_th ?hl); (case hl => walk_at "lv")) | ((with_reducible refine' lv_lo ?hl); (case hl => walk_at "lv")))
local macro_rules | `(tactic| walk_at "seta") => `(tactic| first | with_reducible exact SetA.z | ((with_reducible refine' SetA.s ?hss); (case hss => walk_at "seta")))
local macro_rules | `(tactic| walk_at "setas") => `(tactic| first | with_reducible exact SetAs.nil | ((with_reducible refine' SetAs.cons ?hsa ?hsb); (case hsa => walk_at "seta"); (case hsb => walk_at "setas")))
local macro_rules | `(tactic| walk_at "wipea") => `(tactic| first | with_reducible exact WipeA.nil | (refine' WipeA.cons ?hwr ?hws; (case hwr => walk_at "wipea"); (case hws => walk_at "seta")))
local macro_rules | `(tactic| walk_at "asg") => `(tactic| first | ((with_reducible refine' asg_nm ?hsa); (case hsa => walk_at "seta")) | ((with_reducible refine' asg_tp ?hsa); (case hsa => walk_at "setas")) | ((with_reducible refine' asg_w ?hw1 ?hw2); (case hw1 => walk_at "wipea"); (case hw2 => walk_at "asg")))
local macro_rules | `(tactic| walk_at "pe") => `(tactic| simp -implicitDefEqProofs (disch := first | omega | with_reducible assumption | (simp only [List.length_map, List.length_append, List.length_cons, List.length_nil, List.length_replicate, List.length_range, List.length_drop, List.length_take]; omega) | exact okNs_ints | ((with_reducible show decide _ = true); decide)) only [PW.w_ret_eq, PW.op_some, PW.op_none, PW.rv_0, PW.rv_s, PW.rb_0, PW.rb_0o, PW.rb_s, PW.ro_0, PW.ro_0o, PW.ro_s, PW.ng_int, PW.bk_bl, PW.ln_ok, PW.iv_lst, PW.iv_tup, PW.iv_str, PW.r1_int, PW.r2_int, PW.zp_lst, PW.en_lst, PW.ti_int, PW.e_cst, PW.e_glb, PW.e_var, PW.e_bor, PW.e_bin, PW.e_neg, PW.e_not, PW.e_and, PW.e_or, PW.e_ite, PW.e_isn, PW.e_notn, PW.e_eq, PW.e_ne, PW.e_lt, PW.e_le, PW.e_gt, PW.e_ge, PW.e_in, PW.e_nin, PW.e_chn, PW.e_tup, PW.e_lst, PW.e_idx, PW.d_lst, PW.d_tup, PW.d_str, PW.d_loc, PW.e_slc, PW.o_none, PW.o_some, PW.e_att, PW.e_atO, PW.e_bif, PW.e_isi, PW.e_call, PW.e_make, PW.e_meth, PW.a_nil, PW.a_cons, PW.t_not, PW.t_and, PW.t_or, PW.tr_bl, PW.tr_int, PW.tr_non, PW.tr_lst, PW.tr_tup, PW.t_cmp, PW.t_chn, PW.t_var, PW.t_bor, PW.t_call, PW.t_meth, PW.t_bif, PW.t_isi, PW.t_idx, PW.t_att, PW.t_atO, PW.t_lc, PW.t_cst, PW.i_val, PW.i_rng1, PW.i_rng2, PW.i_zip, PW.i_enum, PW.e_lc, PW.p_add, PW.p_sub, PW.p_mulR, PW.p_mulL, PW.p_mod, PW.p_div, PW.p_pow, PW.p_catL, PW.p_catT, PW.p_catS, PW.p_rep, PW.c_lt, PW.c_gt, PW.c_le, PW.c_ge, PW.c_ltS, PW.c_eqI, PW.c_neI, PW.c_eqS, PW.c_neS, PW.c_chI, PW.c_chL, PW.c_chS, PW.f_lL, PW.f_lT, PW.f_lS, PW.f_int, PW.f_intB, PW.f_abs, PW.f_tupL, PW.f_tupT, PW.f_lstL, PW.f_lstT, PW.f_max, PW.f_min, PW.f_slcL, PW.f_slcT, PW.s_nil, PW.s_p, PW.s_k, PW.s_d, PW.g_0, PW.g_s, PW.op_bind, PW.x_idxL, PW.x_idxT, PW.x_idxLn, PW.x_idxTn, PW.cut_nn, PW.cut_sn, PW.cut_ns, PW.cut_snN, PW.cut_nsN, PW.pen_get, PW.c_neE, PW.c_eqE, PW.c_neET, PW.c_eqET, PW.x_idxLm, PW.x_idxTm, PW.is_ii, PW.is_ib, PW.is_ss, PW.is_ll, PW.is_lt, PW.is_cc, PW.f_allT, PW.f_sl63, if_true, if_false, Bool.not_true, Bool.not_false, Bool.false_eq_true, decide_eq_true_eq, PF.isNon, Bool.not_eq_true', decide_eq_false_iff_not, reduceIte, List.getD_cons_zero, List.getD_cons_succ, Int.reduceToNat, List.length_cons, List.length_nil, Nat.reduceAdd, Int.cast_ofNat_Int, List.eraseIdx_cons_zero, List.eraseIdx_cons_succ, List.nil_append, List.cons_append, List.append_nil, Bool.true_eq_false, not_true_eq_false, not_false_eq_true, K51.x_begin, K51.x_lap, K51.c_neV, K51.c_eqV])
local macro_rules | `(tactic| walk_at "pd") => `(tactic| simp -implicitDefEqProofs (disch := first | omega | exact ⟨by omega, digest_small (by omega)⟩) only [PW.w_ret_eq, PW.op_some, PW.op_none, PW.rv_0, PW.rv_s, PW.rb_0, PW.rb_0o, PW.rb_s, PW.ro_0, PW.ro_0o, PW.ro_s, PW.ng_int, PW.bk_bl, PW.ln_ok, PW.iv_lst, PW.iv_tup, PW.iv_str, PW.r1_int, PW.r2_int, PW.zp_lst, PW.en_lst, PW.ti_int, PW.e_cst, PW.e_glb, PW.e_var, PW.e_bor, PW.e_bin, PW.e_neg, PW.e_not, PW.e_and, PW.e_or, PW.e_ite, PW.e_isn, PW.e_notn, PW.e_eq, PW.e_ne, PW.e_lt, PW.e_le, PW.e_gt, PW.e_ge, PW.e_in, PW.e_nin, PW.e_chn, PW.e_tup, PW.e_lst, PW.e_idx, PW.d_lst, PW.d_tup, PW.d_str, PW.d_loc, PW.e_slc, PW.o_none, PW.o_some, PW.e_att, PW.e_atO, PW.e_bif, PW.e_isi, PW.e_call, PW.e_make, PW.e_meth, PW.a_nil, PW.a_cons, PW.t_not, PW.t_and, PW.t_or, PW.tr_bl, PW.tr_int, PW.tr_non, PW.tr_lst, PW.tr_tup, PW.t_cmp, PW.t_chn, PW.t_var, PW.t_bor, PW.t_call, PW.t_meth, PW.t_bif, PW.t_isi, PW.t_idx, PW.t_att, PW.t_atO, PW.t_lc, PW.t_cst, PW.i_val, PW.i_rng1, PW.i_rng2, PW.i_zip, PW.i_enum, PW.e_lc, PW.p_add, PW.p_sub, PW.p_mulR, PW.p_mulL, PW.p_mod, PW.p_div, PW.p_pow, PW.p_catL, PW.p_catT, PW.p_catS, PW.p_rep, PW.c_lt, PW.c_gt, PW.c_le, PW.c_ge, PW.c_ltS, PW.c_eqI, PW.c_neI, PW.c_eqS, PW.c_neS, PW.c_chI, PW.c_chL, PW.c_chS, PW.f_lL, PW.f_lT, PW.f_lS, PW.f_int, PW.f_intB, PW.f_abs, PW.f_tupL, PW.f_tupT, PW.f_lstL, PW.f_lstT, PW.f_max, PW.f_min, PW.f_slcL, PW.f_slcT, PW.s_nil, PW.s_p, PW.s_k, PW.s_d, PW.g_0, PW.g_s, PW.op_bind, PW.x_idxL, PW.x_idxT, PW.x_idxLn, PW.x_idxTn, PW.cut_nn, PW.cut_sn, PW.cut_ns, PW.cut_snN, PW.cut_nsN, PW.pen_get, PW.c_neE, PW.c_eqE, PW.c_neET, PW.c_eqET, PW.x_idxLm, PW.x_idxTm, PW.is_ii, PW.is_ib, PW.is_ss, PW.is_ll, PW.is_lt, PW.is_cc, PW.f_allT, PW.f_sl63, if_true, if_false, Bool.not_true, Bool.not_false, Bool.false_eq_true, decide_eq_true_eq, PF.isNon, Bool.not_eq_true', decide_eq_false_iff_not, reduceIte, List.getD_cons_zero, List.getD_cons_succ, Int.reduceToNat, List.length_cons, List.length_nil, Nat.reduceAdd, Int.cast_ofNat_Int, List.eraseIdx_cons_zero, List.eraseIdx_cons_succ, List.nil_append, List.cons_append, List.append_nil, Bool.true_eq_false, not_true_eq_false, not_false_eq_true, K51.x_begin, K51.x_lap, K51.c_neV, K51.c_eqV])
local macro_rules | `(tactic| walk_at "ps") => `(tactic| first
  | with_reducible refine' ws_set ?_ | with_reducible refine' ws_setO ?_ | with_reducible refine' ws_par ?_ | with_reducible refine' ws_unp ?_ | with_reducible refine' ws_exp ?_ | with_reducible refine' ws_pas ?_
  | ((with_reducible refine' ws_ret ?hlv ?_); (case hlv => walk_at "lv"))
  | ((with_reducible refine' ws_retN ?hlv ?_); (case hlv => walk_at "lv"))
  | ((with_reducible refine' ws_retNew ?hlv ?_); (case hlv => walk_at "lv"))
  | with_reducible refine' ws_iff ?_ | with_reducible refine' ws_nilT ?_ | with_reducible refine' ws_nilL ?_ | with_reducible refine' ws_nilF ?_ | with_reducible refine' ws_nilI ?_
  | with_reducible refine' ws_for ?_ | with_reducible refine' ws_whl ?_
  | ((with_reducible refine' ws_frz ?_); simp only [frzE, List.getElem?_cons_zero, List.getElem?_cons_succ, List.set_cons_zero, List.set_cons_succ])
  | with_reducible refine' ws_fld ?_ | with_reducible refine' ws_app ?_ | with_reducible refine' ws_ext ?_ | with_reducible refine' ws_appop ?_ | with_reducible refine' ws_sub ?_ | with_reducible refine' th_nxt ?_ | with_reducible refine' lo_nxt ?_ | with_reducible refine' lo_cnt ?_ | with_reducible refine' lo_brk ?_ | with_reducible refine' th_brk ?_ | with_reducible refine' th_cnt ?_ | with_reducible refine' ws_brk ?_ | with_reducible refine' ws_cnt ?_
  | ((with_reducible show (chkB _ _ = true ∧ _)); refine' ⟨rfl, ?_⟩)
  | ((with_reducible show (∃ kk ρ' S', PV.int _ = PV.int kk ∧ mutL _ _ _ _ = _ ∧ _)); (first | refine' ⟨_, _, _, rfl, pen_put1 rfl, ?_⟩ | refine' ⟨_, _, _, rfl, pen_put2 rfl, ?_⟩))
  | ((with_reducible refine' br_tt ?_)) | ((with_reducible refine' br_ff ?_))
  | ((with_reducible show (∃ ρ', SetA _ _ _ ρ' ∧ _)); refine' ⟨_, ?hsa, ?_⟩; (case hsa => walk_at "seta"))
  | ((with_reducible show (∃ xs ρ', PV.lst _ = PV.lst xs ∧ SetA _ _ _ ρ' ∧ _)); refine' ⟨_, _, rfl, ?hsa, ?_⟩; (case hsa => walk_at "seta"))
  | ((with_reducible show (∃ s t ρ1 ρ2, slOf _ _ = some s ∧ slOf _ _ = some t ∧ _)); refine' ⟨_, _, _, _, rfl, rfl, ?hsa, ?hsb, ?_⟩; (case hsa => walk_at "seta"); (case hsb => walk_at "seta"))
  | ((with_reducible show (∃ ρ', asgT _ _ _ = some ρ' ∧ _)); refine' ⟨_, ?hsa, ?_⟩; (case hsa => walk_at "asg")))
local macro_rules | `(tactic| walk_at "pw") => `(tactic| repeat (first | walk_at "ps" | walk_at "pe"))
local macro_rules | `(tactic| walk_at "pwd") => `(tactic| repeat (first | walk_at "ps" | walk_at "pe" | walk_at "pd"))
local macro_rules | `(tactic| walk_at "fn") => `(tactic| (refine' w_fnC ?h1 ?h2 ?h3 ?_; (case h1 => exact rfl); (case h2 => exact rfl); (case h3 => (simp only [List.map_cons, List.map_nil, List.replicate, Nat.sub_self, List.append_nil, List.cons_append, List.nil_append]; exact rfl)); show WS _ _ (.cons _ _) _ _ _))
local macro_rules | `(tactic| walk_at "new") => `(tactic| (refine' w_newC ?h0 ?h1 ?h2 ?h3 ?_; (case h0 => exact rfl); (case h1 => exact rfl); (case h2 => exact rfl); (case h3 => (simp only [List.map_cons, List.map_nil, List.replicate, Nat.sub_self, List.append_nil, List.cons_append, List.nil_append]; exact rfl)); show WS _ _ (.cons _ _) _ _ _))

local macro_rules | `(tactic| walk_at "wl") => `(tactic| (refine' wl_cons ?ha ?_; (case ha => walk_at "asg")))
local macro_rules | `(tactic| walk_at "appop") => `(tactic| (refine' ⟨_, _, _, _, _, _, _, rfl, rfl, rfl, rfl, rfl, ?ha, ?hm, ?_⟩; (case ha => walk_at "seta"); (case hm => (refine' mut_own rfl rfl ?hb; (case hb => walk_at "seta")))))
local macro_rules | `(tactic| walk_at "fin") => `(tactic| first | done | exact trivial | exact rfl | (and_intros <;> first | exact rfl | exact trivial))

section
variable {n : Nat} {S : Sto} {Q : PV → Sto → Prop} {R : Nat → Sto → Prop} {b l f a : List Lt} {z : Lt} {xs : List PV} {i lo hi : Int} {p : Str}
theorem shortest_ (hl : l ≠ [] ∧ l.length ≤ 300 ∧ b.length ≤ 300) : W ((cal pg (n+6)).fn 10 [cv b l]) S fun v S1 => (∃ f a, v = cv f a ∧ Least .e (sq .e b l) f a) ∧ S1 = S := by
  have hp := List.length_pos_iff.mpr hl.1
  walk_at "fn"
  walk_at "pw"
  walk_at "fn"
  walk_at "pw"
  refine' wl_rng (fun m ρ S' => S' = S ∧ (∃ s2, ρ = [.val (.lst (b.map lv)), .val (.lst (l.map lv)), s2]) ∧ ∀ q, 0 < q → q ≤ m → q ∣ l.length → per (sq .e b l) b.length q → False) ⟨rfl, ⟨_, rfl⟩, fun q h1 h2 => by omega⟩ ?_ ?_
  · rintro m ρ S' hm ⟨rfl, ⟨s2, rfl⟩, ho⟩
    have hm' : m < l.length := by simp only [List.length_map] at hm; omega
    refine' ⟨_, ?ha, ?_⟩
    case ha => walk_at "asg"
    walk_at "pw"
    have hq0 : (((l.map lv).length : Int) % (1 + m)) = ((l.length % (m + 1) : Nat) : Int) := by
      rw [List.length_map, Int.natCast_emod, show (1 + (m : Int)) = ((m + 1 : Nat) : Int) by omega]
    have hq1 : (((l.map lv).length : Int) / (1 + m)) = ((l.length / (m + 1) : Nat) : Int) := by
      rw [List.length_map, Int.natCast_ediv, show (1 + (m : Int)) = ((m + 1 : Nat) : Int) by omega]
    rw [hq0, hq1]
    have nope : (m + 1 ∣ l.length → ¬per (sq .e b l) b.length (m + 1)) → ∀ q, 0 < q → q ≤ m + 1 → q ∣ l.length → per (sq .e b l) b.length q → False := fun h q h1 h2 h3 h4 => by
      by_cases e : q ≤ m
      · exact ho q h1 e h3 h4
      · have : q = m + 1 := by omega
        subst this
        exact h h3 h4
    by_cases hd : m + 1 ∣ l.length
    · have hk : l.length / (m + 1) * (m + 1) = l.length := Nat.div_mul_cancel hd
      have hk2 : l.length / (m + 1) ≤ l.length := Nat.div_le_self _ _
      rw [if_pos (by rw [Nat.mod_eq_zero_of_dvd hd]; rfl)]
      have hpart := part_iff (d := Lt.e) (b := b) (Nat.succ_pos m) hd hp
      generalize l.length / (m + 1) = K at hk hk2 hpart ⊢
      rw [p_rep ⟨by omega, by
        rw [List.length_take, List.length_map]
        have : min (1 + (m : Int)).toNat l.length * ((K : Nat) : Int).toNat ≤ 300 * 300 := Nat.mul_le_mul (by omega) (by omega)
        omega⟩]
      rw [show (List.replicate ((K : Nat) : Int).toNat ((l.map lv).take (1 + (m : Int)).toNat)).flatten = ((List.replicate K (l.take (m + 1))).flatten).map lv by
        rw [List.map_flatten, List.map_replicate, List.map_take, Int.toNat_natCast, show (1 + (m : Int)).toNat = m + 1 by omega]]
      rw [c_eqVL]
      refine' br_d (fun h => ?_) (fun h => ?_)
      · have hper := hpart.mp h
        have hsq := part_sq (Nat.succ_pos m) hd hp hper
        have hmin : ∀ M p, 0 < p → per (sq .e b l) M p → m + 1 ≤ p := least_div (N := b.length) hp (sq_per .e b l) (fun q h1 h2 h3 h4 => ho q h1 (by omega) h3 h4) hd
        walk_at "pw"
        rw [show (l.map lv).take (1 + (m : Int)).toNat = (l.take (m + 1)).map lv by rw [List.map_take, show (1 + (m : Int)).toNat = m + 1 by omega]]
        refine' ww_by (fun k ρ S'' => S'' = S' ∧ ∃ b' l' : List Lt, ρ = [.val (.lst (b'.map lv)), .val (.lst (l'.map lv)), .val (.int (1 + m))] ∧ b'.length = k ∧ k ≤ b.length ∧ l'.length = m + 1 ∧ ∀ i, sq .e b' l' i = sq .e b l i) _ b.length _ _ (by show b.length < 1000000; omega) ⟨rfl, b, l.take (m + 1), rfl, rfl, Nat.le_refl _, by rw [List.length_take]; omega, hsq⟩ ?_
        rintro k ρ S'' ⟨rfl, b', l', rfl, hb', hkb, hl', hs⟩
        have fin : (b'.length = 0 ∨ b'.getD (b'.length - 1) .e ≠ l'.getD (l'.length - 1) .e) → W ((cal pg (n+4)).new 0 [.lst (b'.map lv), .lst (l'.map lv)]) S'' fun v S1 => (∃ f a, v = cv f a ∧ Least .e (sq .e b l) f a) ∧ S1 = S'' := fun hz => by
          rw [q_newL ⟨by omega, by omega, fun z => by rw [z] at hl'; simp at hl'⟩]
          exact ⟨⟨_, _, rfl, least_of (by omega) hs (by rw [hl']; exact hmin) hz⟩, rfl⟩
        walk_at "pw"
        rw [c_neE okNs_lv]
        by_cases hbe : b' = []
        · subst hbe
          rw [if_neg (by simp)]
          walk_at "pw"
          exact fin (.inl rfl)
        · have hb0 := List.length_pos_iff.mpr hbe
          rw [if_pos (by cases b' <;> simp at hbe ⊢)]
          rw [x_idxLn (by rw [List.length_map]; omega)]
          rw [getD_map .e (by rw [List.length_map]; omega), getD_map .e (by rw [List.length_map]; omega), c_eqV]
          rw [List.length_map, List.length_map, show (-1 + (b'.length : Int)).toNat = b'.length - 1 by omega, show (-1 + (l'.length : Int)).toNat = l'.length - 1 by omega]
          refine' br_d (fun h2 => ?_) (fun h2 => ?_)
          · walk_at "pw"
            rw [List.length_map, List.length_map, show (-1 + (b'.length : Int)).toNat = b'.length - 1 by omega, show (-1 + (l'.length : Int)).toNat = l'.length - 1 by omega, ← List.map_drop, ← List.map_take, ← List.map_take, ← List.map_append]
            refine' ⟨k - 1, by omega, trivial, _, _, rfl, ?_, by omega, ?_, fun i => ?_⟩
            · rw [List.length_take]; omega
            · rw [List.length_append, List.length_drop, List.length_take]; omega
            · rw [sq_rot (by omega) hb0 h2, hs]
          · walk_at "pw"
            exact fin (.inr h2)
      · walk_at "pw"
        exact ⟨trivial, ⟨_, rfl⟩, nope fun _ z => h (hpart.mpr z)⟩
    · have : ¬l.length % (m + 1) = 0 := fun z => hd (Nat.dvd_of_mod_eq_zero z)
      rw [if_neg (by rw [beq_iff_eq]; omega)]
      walk_at "pw"
      exact ⟨trivial, ⟨_, rfl⟩, nope fun z => (hd z).elim⟩
  · rintro ρ S' ⟨rfl, ⟨s2, rfl⟩, ho⟩
    exact (ho l.length hp (by simp only [List.length_map]; omega) (Nat.dvd_refl _) (sq_per .e b l)).elim
end
end K51

set_option Elab.async false
set_option linter.all false
set_option maxRecDepth 100000
set_option maxHeartbeats 4000000
namespace K51
open PySem L2 PF PW
theorem c_eqVT {C : Calls} {S : Sto} {QB : Bool → Sto → Prop} {x : List Lt} : CM pg C .eq (.tup (x.map lv)) (.tup (x.map lv)) S QB = QB true S := by
  rw [c_eq ⟨okT okNs_lv, okT okNs_lv⟩, eqP_T, eqPs_map eqP_lv, decide_eq_true rfl]
local macro_rules | `(tactic| walk_at "lv") => `(tactic| first | with_reducible exact lv_fn | ((with_reducible refine' lv_th ?hl); (case hl => walk_at "lv")) | ((with_reducible refine' lv_lo ?hl); (case hl => walk_at "lv")))
local macro_rules | `(tactic| walk_at "seta") => `(tactic| first | with_reducible exact SetA.z | ((with_reducible refine' SetA.s ?hss); (case hss => walk_at "seta")))
local macro_rules | `(tactic| walk_at "setas") => `(tactic| first | with_reducible exact SetAs.nil | ((with_reducible refine' SetAs.cons ?hsa ?hsb); (case hsa => walk_at "seta"); (case hsb => walk_at "setas")))
local macro_rules | `(tactic| walk_at "wipea") => `(tactic| first | with_reducible exact WipeA.nil | (refine' WipeA.cons ?hwr ?hws; (case hwr => walk_at "wipea"); (case hws => walk_at "seta")))
local macro_rules | `(tactic| walk_at "asg") => `(tactic| first | ((with_reducible refine' asg_nm ?hsa); (case hsa => walk_at "seta")) | ((with_reducible refine' asg_tp ?hsa); (case hsa => walk_at "setas")) | ((with_reducible refine' asg_w ?hw1 ?hw2); (case hw1 => walk_at "wipea"); (case hw2 => walk_at "asg")))
local macro_rules | `(tactic| walk_at "pe") => `(tactic| simp -implicitDefEqProofs (disch := first | omega | with_reducible assumption | (simp only [List.length_map, List.length_append, List.length_cons, List.length_nil, List.length_replicate, List.length_range, List.length_drop, List.length_take]; omega) | exact okNs_ints | ((with_reducible show decide _ = true); decide)) only [PW.w_ret_eq, PW.op_some, PW.op_none, PW.rv_0, PW.rv_s, PW.rb_0, PW.rb_0o, PW.rb_s, PW.ro_0, PW.ro_0o, PW.ro_s, PW.ng_int, PW.bk_bl, PW.ln_ok, PW.iv_lst, PW.iv_tup, PW.iv_str, PW.r1_int, PW.r2_int, PW.zp_lst, PW.en_lst, PW.ti_int, PW.e_cst, PW.e_glb, PW.e_var, PW.e_bor, PW.e_bin, PW.e_neg, PW.e_not, PW.e_and, PW.e_or, PW.e_ite, PW.e_isn, PW.e_notn, PW.e_eq, PW.e_ne, PW.e_lt, PW.e_le, PW.e_gt, PW.e_ge, PW.e_in, PW.e_nin, PW.e_chn, PW.e_tup, PW.e_lst, PW.e_idx, PW.d_lst, PW.d_tup, PW.d_str, PW.d_loc, PW.e_slc, PW.o_none, PW.o_some, PW.e_att, PW.e_atO, PW.e_bif, PW.e_isi, PW.e_call, PW.e_make, PW.e_meth, PW.a_nil, PW.a_cons, PW.t_not, PW.t_and, PW.t_or, PW.tr_bl, PW.tr_int, PW.tr_non, PW.tr_lst, PW.tr_tup, PW.t_cmp, PW.t_chn, PW.t_var, PW.t_bor, PW.t_call, PW.t_meth, PW.t_bif, PW.t_isi, PW.t_idx, PW.t_att, PW.t_atO, PW.t_lc, PW.t_cst, PW.i_val, PW.i_rng1, PW.i_rng2, PW.i_zip, PW.i_enum, PW.e_lc, PW.p_add, PW.p_sub, PW.p_mulR, PW.p_mulL, PW.p_mod, PW.p_div, PW.p_pow, PW.p_catL, PW.p_catT, PW.p_catS, PW.p_rep, PW.c_lt, PW.c_gt, PW.c_le, PW.c_ge, PW.c_ltS, PW.c_eqI, PW.c_neI, PW.c_eqS, PW.c_neS, PW.c_chI, PW.c_chL, PW.c_chS, PW.f_lL, PW.f_lT, PW.f_lS, PW.f_int, PW.f_intB, PW.f_abs, PW.f_tupL, PW.f_tupT, PW.f_lstL, PW.f_lstT, PW.f_max, PW.f_min, PW.f_slcL, PW.f_slcT, PW.s_nil, PW.s_p, PW.s_k, PW.s_d, PW.g_0, PW.g_s, PW.op_bind, PW.x_idxL, PW.x_idxT, PW.x_idxLn, PW.x_idxTn, PW.cut_nn, PW.cut_sn, PW.cut_ns, PW.cut_snN, PW.cut_nsN, PW.pen_get, PW.c_neE, PW.c_eqE, PW.c_neET, PW.c_eqET, PW.x_idxLm, PW.x_idxTm, PW.is_ii, PW.is_ib, PW.is_ss, PW.is_ll, PW.is_lt, PW.is_cc, PW.f_allT, PW.f_sl63, if_true, if_false, Bool.not_true, Bool.not_false, Bool.false_eq_true, decide_eq_true_eq, PF.isNon, Bool.not_eq_true', decide_eq_false_iff_not, reduceIte, List.getD_cons_zero, List.getD_cons_succ, Int.reduceToNat, List.length_cons, List.length_nil, Nat.reduceAdd, Int.cast_ofNat_Int, List.eraseIdx_cons_zero, List.eraseIdx_cons_succ, List.nil_append, List.cons_append, List.append_nil, Bool.true_eq_false, not_true_eq_false, not_false_eq_true, K51.x_begin, K51.x_lap, K51.c_neV, K51.c_eqV])
local macro_rules | `(tactic| walk_at "pd") => `(tactic| simp -implicitDefEqProofs (disch := first | omega | exact ⟨by omega, digest_small (by omega)⟩) only [PW.w_ret_eq, PW.op_some, PW.op_none, PW.rv_0, PW.rv_s, PW.rb_0, PW.rb_0o, PW.rb_s, PW.ro_0, PW.ro_0o, PW.ro_s, PW.ng_int, PW.bk_bl, PW.ln_ok, PW.iv_lst, PW.iv_tup, PW.iv_str, PW.r1_int, PW.r2_int, PW.zp_lst, PW.en_lst, PW.ti_int, PW.e_cst, PW.e_glb, PW.e_var, PW.e_bor, PW.e_bin, PW.e_neg, PW.e_not, PW.e_and, PW.e_or, PW.e_ite, PW.e_isn, PW.e_notn, PW.e_eq, PW.e_ne, PW.e_lt, PW.e_le, PW.e_gt, PW.e_ge, PW.e_in, PW.e_nin, PW.e_chn, PW.e_tup, PW.e_lst, PW.e_idx, PW.d_lst, PW.d_tup, PW.d_str, PW.d_loc, PW.e_slc, PW.o_none, PW.o_some, PW.e_att, PW.e_atO, PW.e_bif, PW.e_isi, PW.e_call, PW.e_make, PW.e_meth, PW.a_nil, PW.a_cons, PW.t_not, PW.t_and, PW.t_or, PW.tr_bl, PW.tr_int, PW.tr_non, PW.tr_lst, PW.tr_tup, PW.t_cmp, PW.t_chn, PW.t_var, PW.t_bor, PW.t_call, PW.t_meth, PW.t_bif, PW.t_isi, PW.t_idx, PW.t_att, PW.t_atO, PW.t_lc, PW.t_cst, PW.i_val, PW.i_rng1, PW.i_rng2, PW.i_zip, PW.i_enum, PW.e_lc, PW.p_add, PW.p_sub, PW.p_mulR, PW.p_mulL, PW.p_mod, PW.p_div, PW.p_pow, PW.p_catL, PW.p_catT, PW.p_catS, PW.p_rep, PW.c_lt, PW.c_gt, PW.c_le, PW.c_ge, PW.c_ltS, PW.c_eqI, PW.c_neI, PW.c_eqS, PW.c_neS, PW.c_chI, PW.c_chL, PW.c_chS, PW.f_lL, PW.f_lT, PW.f_lS, PW.f_int, PW.f_intB, PW.f_abs, PW.f_tupL, PW.f_tupT, PW.f_lstL, PW.f_lstT, PW.f_max, PW.f_min, PW.f_slcL, PW.f_slcT, PW.s_nil, PW.s_p, PW.s_k, PW.s_d, PW.g_0, PW.g_s, PW.op_bind, PW.x_idxL, PW.x_idxT, PW.x_idxLn, PW.x_idxTn, PW.cut_nn, PW.cut_sn, PW.cut_ns, PW.cut_snN, PW.cut_nsN, PW.pen_get, PW.c_neE, PW.c_eqE, PW.c_neET, PW.c_eqET, PW.x_idxLm, PW.x_idxTm, PW.is_ii, PW.is_ib, PW.is_ss, PW.is_ll, PW.is_lt, PW.is_cc, PW.f_allT, PW.f_sl63, if_true, if_false, Bool.not_true, Bool.not_false, Bool.false_eq_true, decide_eq_true_eq, PF.isNon, Bool.not_eq_true', decide_eq_false_iff_not, reduceIte, List.getD_cons_zero, List.getD_cons_succ, Int.reduceToNat, List.length_cons, List.length_nil, Nat.reduceAdd, Int.cast_ofNat_Int, List.eraseIdx_cons_zero, List.eraseIdx_cons_succ, List.nil_append, List.cons_append, List.append_nil, Bool.true_eq_false, not_true_eq_false, not_false_eq_true, K51.x_begin, K51.x_lap, K51.c_neV, K51.c_eqV])
local macro_rules | `(tactic| walk_at "ps") => `(tactic| first
  | with_reducible refine' ws_set ?_ | with_reducible refine' ws_setO ?_ | with_reducible refine' ws_par ?_ | with_reducible refine' ws_unp ?_ | with_reducible refine' ws_exp ?_ | with_reducible refine' ws_pas ?_
  | ((with_reducible refine' ws_ret ?hlv ?_); (case hlv => walk_at "lv"))
  | ((with_reducible refine' ws_retN ?hlv ?_); (case hlv => walk_at "lv"))
  | ((with_reducible refine' ws_retNew ?hlv ?_); (case hlv => walk_at "lv"))
  | with_reducible refine' ws_iff ?_ | with_reducible refine' ws_nilT ?_ | with_reducible refine' ws_nilL ?_ | with_reducible refine' ws_nilF ?_ | with_reducible refine' ws_nilI ?_
  | with_reducible refine' ws_for ?_ | with_reducible refine' ws_whl ?_
  | ((with_reducible refine' ws_frz ?_); simp only [frzE, List.getElem?_cons_zero, List.getElem?_cons_succ, List.set_cons_zero, List.set_cons_succ])
  | with_reducible refine' ws_fld ?_ | with_reducible refine' ws_app ?_ | with_reducible refine' ws_ext ?_ | with_reducible refine' ws_appop ?_ | with_reducible refine' ws_sub ?_ | with_reducible refine' th_nxt ?_ | with_reducible refine' lo_nxt ?_ | with_reducible refine' lo_cnt ?_ | with_reducible refine' lo_brk ?_ | with_reducible refine' th_brk ?_ | with_reducible refine' th_cnt ?_ | with_reducible refine' ws_brk ?_ | with_reducible refine' ws_cnt ?_
  | ((with_reducible show (chkB _ _ = true ∧ _)); refine' ⟨rfl, ?_⟩)
  | ((with_reducible show (∃ kk ρ' S', PV.int _ = PV.int kk ∧ mutL _ _ _ _ = _ ∧ _)); (first | refine' ⟨_, _, _, rfl, pen_put1 rfl, ?_⟩ | refine' ⟨_, _, _, rfl, pen_put2 rfl, ?_⟩))
  | ((with_reducible refine' br_tt ?_)) | ((with_reducible refine' br_ff ?_))
  | ((with_reducible show (∃ ρ', SetA _ _ _ ρ' ∧ _)); refine' ⟨_, ?hsa, ?_⟩; (case hsa => walk_at "seta"))
  | ((with_reducible show (∃ xs ρ', PV.lst _ = PV.lst xs ∧ SetA _ _ _ ρ' ∧ _)); refine' ⟨_, _, rfl, ?hsa, ?_⟩; (case hsa => walk_at "seta"))
  | ((with_reducible show (∃ s t ρ1 ρ2, slOf _ _ = some s ∧ slOf _ _ = some t ∧ _)); refine' ⟨_, _, _, _, rfl, rfl, ?hsa, ?hsb, ?_⟩; (case hsa => walk_at "seta"); (case hsb => walk_at "seta"))
  | ((with_reducible show (∃ ρ', asgT _ _ _ = some ρ' ∧ _)); refine' ⟨_, ?hsa, ?_⟩; (case hsa => walk_at "asg")))
local macro_rules | `(tactic| walk_at "pw") => `(tactic| repeat (first | walk_at "ps" | walk_at "pe"))
local macro_rules | `(tactic| walk_at "pwd") => `(tactic| repeat (first | walk_at "ps" | walk_at "pe" | walk_at "pd"))
local macro_rules | `(tactic| walk_at "fn") => `(tactic| (refine' w_fnC ?h1 ?h2 ?h3 ?_; (case h1 => exact rfl); (case h2 => exact rfl); (case h3 => (simp only [List.map_cons, List.map_nil, List.replicate, Nat.sub_self, List.append_nil, List.cons_append, List.nil_append]; exact rfl)); show WS _ _ (.cons _ _) _ _ _))
local macro_rules | `(tactic| walk_at "new") => `(tactic| (refine' w_newC ?h0 ?h1 ?h2 ?h3 ?_; (case h0 => exact rfl); (case h1 => exact rfl); (case h2 => exact rfl); (case h3 => (simp only [List.map_cons, List.map_nil, List.replicate, Nat.sub_self, List.append_nil, List.cons_append, List.nil_append]; exact rfl)); show WS _ _ (.cons _ _) _ _ _))

local macro_rules | `(tactic| walk_at "wl") => `(tactic| (refine' wl_cons ?ha ?_; (case ha => walk_at "asg")))
local macro_rules | `(tactic| walk_at "appop") => `(tactic| (refine' ⟨_, _, _, _, _, _, _, rfl, rfl, rfl, rfl, rfl, ?ha, ?hm, ?_⟩; (case ha => walk_at "seta"); (case hm => (refine' mut_own rfl rfl ?hb; (case hb => walk_at "seta")))))
local macro_rules | `(tactic| walk_at "fin") => `(tactic| first | done | exact trivial | exact rfl | (and_intros <;> first | exact rfl | exact trivial))

section
variable {n : Nat} {S : Sto} {Q : PV → Sto → Prop} {R : Nat → Sto → Prop} {b l f a : List Lt} {z : Lt} {xs : List PV} {i lo hi : Int} {p : Str}
theorem q_sl {x y : Nat} (h : (0 < x ∧ x ≤ 600) ∧ 0 < y ∧ y ≤ 600) : W ((cal pg (n+1)).fn 16 [.int x, .int y]) S Q = Q (.int (Nat.lcm x y)) S := by
  refine w_eqn ?_
  walk_at "fn"
  walk_at "pw"
  refine' ww_by (fun k ρ S' => S' = S ∧ ∃ lo hi : Nat, ρ = [.val (.int x), .val (.int y), .val (.int lo), .val (.int hi)] ∧ lo = k ∧ 0 < hi ∧ hi ≤ 600 ∧ lo ≤ 600 ∧ Nat.gcd lo hi = Nat.gcd x y) _ x _ _ (by show x < 1000000; omega) ⟨rfl, x, y, rfl, rfl, h.2.1, h.2.2, h.1.2, rfl⟩ ?_
  rintro k ρ S' ⟨rfl, lo, hi, rfl, rfl, h1, h2, h2', h3⟩
  walk_at "pw"
  refine' br_n (br_q (fun h4 => ?_) (fun h4 => ?_))
  · walk_at "pw"
    have e : lo = 0 := by omega
    subst e
    rw [Nat.gcd_zero_left] at h3
    refine' ⟨?_, trivial⟩
    rw [show Nat.lcm x y = x * y / hi by rw [h3]; rfl, Int.natCast_ediv, Int.natCast_mul]
  · have hm := Nat.mod_lt hi (show 0 < lo by omega)
    walk_at "pw"
    refine' ⟨hi % lo, hm, trivial, hi % lo, lo, ?_, rfl, by omega, h2', by omega, ?_⟩
    · rw [Int.natCast_emod]
    · rw [← Nat.gcd_rec]; exact h3
theorem q_cd (h : (l ≠ [] ∧ l.length ≤ 600) ∧ a ≠ [] ∧ a.length ≤ 600) : W ((cal pg (n+2)).fn 17 [cv b l, cv f a]) S Q = Q (.int ((max b.length f.length + Nat.lcm l.length a.length : Nat) : Int)) S := by
  have p1 := List.length_pos_iff.mpr h.1.1
  have p2 := List.length_pos_iff.mpr h.2.1
  refine w_eqn ?_
  walk_at "fn"
  walk_at "pw"
  rw [List.length_map, List.length_map, List.length_map, List.length_map, q_sl ⟨⟨p1, h.1.2⟩, p2, h.2.2⟩]
  walk_at "pw"
  refine' ⟨?_, trivial⟩
  split <;> congr 1 <;> omega
theorem q_nc {s : Str} : W ((cal pg (n+1)).fn 12 [cv b l, .str s]) S Q = Q (cv b l) S := by
  refine w_eqn ?_
  walk_at "fn"
  walk_at "pw"
  walk_at "fin"
def unl (b l f a : List Lt) (i : Nat) : Bool := decide (sq .e b l i ≠ sq .e f a i)
def fuN (b l f a : List Lt) (N : Nat) : PV := match (List.range N).find? (unl b l f a) with
  | some i => .int (1 + i)
  | none => .non
theorem q_fu (h : (l ≠ [] ∧ l.length ≤ 600) ∧ a ≠ [] ∧ a.length ≤ 600) (hb : b.length ≤ 600 ∧ f.length ≤ 600) : W ((cal pg (n+3)).fn 18 [cv b l, cv f a]) S Q = Q (fuN b l f a (max b.length f.length + Nat.lcm l.length a.length)) S := by
  have p1 := List.length_pos_iff.mpr h.1.1
  have p2 := List.length_pos_iff.mpr h.2.1
  have hlcm : Nat.lcm l.length a.length ≤ 600 * 600 := Nat.le_trans (Nat.le_of_dvd (Nat.mul_pos p1 p2) (Nat.lcm_dvd_mul _ _)) (Nat.mul_le_mul (by omega) (by omega))
  refine w_eqn ?_
  walk_at "fn"
  walk_at "pw"
  rw [q_nc]
  walk_at "pw"
  rw [q_nc]
  walk_at "pw"
  rw [q_cd h]
  generalize hN : max b.length f.length + Nat.lcm l.length a.length = N
  have hN2 : N ≤ 361000 := by omega
  walk_at "pw"
  refine' wl_rng (fun m ρ S' => S' = S ∧ (∃ s, ρ = [.val (cv b l), .val (cv f a), s]) ∧ ∀ j, j < m → unl b l f a j = false) ⟨rfl, ⟨_, rfl⟩, fun j h => by omega⟩ ?_ ?_
  · rintro m ρ S' hm ⟨rfl, ⟨s, rfl⟩, ho⟩
    have hm' : m < N := by omega
    refine' ⟨_, ?ha, ?_⟩
    case ha => walk_at "asg"
    walk_at "pw"
    rw [q_at (by omega) h.1.1]
    walk_at "pw"
    rw [q_at (by omega) h.2.1]
    walk_at "pw"
    rw [show (1 + (m : Int) - 1).toNat = m by omega]
    refine' br_n (br_d (fun h2 => ?_) (fun h2 => ?_))
    · walk_at "pw"
      refine' ⟨trivial, ⟨_, rfl⟩, fun j hj => ?_⟩
      by_cases e : j < m
      · exact ho j e
      · rw [show j = m by omega]
        exact decide_eq_false (fun z => z h2)
    · walk_at "pw"
      refine' ⟨?_, trivial⟩
      unfold fuN
      rw [List.find?_range_eq_some.mpr ⟨decide_eq_true h2, List.mem_range.mpr hm', fun j hj => by rw [ho j hj]; rfl⟩]
  · rintro ρ S' ⟨rfl, ⟨s, rfl⟩, ho⟩
    walk_at "pw"
    refine' ⟨?_, trivial⟩
    unfold fuN
    rw [List.find?_range_eq_none.mpr fun j hj => by rw [ho j (by omega)]; rfl]
theorem q_eqC {QB : Bool → Sto → Prop} : CM pg (cal pg (n+1)) .ne (cv b l) (cv b l) S QB = QB false S := by
  have key : W ((cal pg (n+1)).fn 7 [cv b l, cv b l]) S fun v S1 => v = .bl true ∧ S1 = S := by
    walk_at "fn"
    walk_at "pw"
    rw [c_eqVT]
    walk_at "pw"
    rw [c_eqVT]
    walk_at "pw"
    walk_at "fin"
  exact cm_neO_eq (k := true) rfl rfl key
end
end K51

set_option Elab.async false
set_option linter.all false
set_option maxRecDepth 100000
set_option maxHeartbeats 4000000
namespace K51
open PySem L2 PF PW
local macro_rules | `(tactic| walk_at "lv") => `(tactic| first | with_reducible exact lv_fn | ((with_reducible refine' lv_th ?hl); (case hl => walk_at "lv")) | ((with_reducible refine' lv_lo ?hl); (case hl => walk_at "lv")))
local macro_rules | `(tactic| walk_at "seta") => `(tactic| first | with_reducible exact SetA.z | ((with_reducible refine' SetA.s ?hss); (case hss => walk_at "seta")))
local macro_rules | `(tactic| walk_at "setas") => `(tactic| first | with_reducible exact SetAs.nil | ((with_reducible refine' SetAs.cons ?hsa ?hsb); (case hsa => walk_at "seta"); (case hsb => walk_at "setas")))
local macro_rules | `(tactic| walk_at "wipea") => `(tactic| first | with_reducible exact WipeA.nil | (refine' WipeA.cons ?hwr ?hws; (case hwr => walk_at "wipea"); (case hws => walk_at "seta")))
local macro_rules | `(tactic| walk_at "asg") => `(tactic| first | ((with_reducible refine' asg_nm ?hsa); (case hsa => walk_at "seta")) | ((with_reducible refine' asg_tp ?hsa); (case hsa => walk_at "setas")) | ((with_reducible refine' asg_w ?hw1 ?hw2); (case hw1 => walk_at "wipea"); (case hw2 => walk_at "asg")))
local macro_rules | `(tactic| walk_at "pe") => `(tactic| simp -implicitDefEqProofs (disch := first | omega | with_reducible assumption | (simp only [List.length_map, List.length_append, List.length_cons, List.length_nil, List.length_replicate, List.length_range, List.length_drop, List.length_take]; omega) | exact okNs_ints | ((with_reducible show decide _ = true); decide)) only [PW.w_ret_eq, PW.op_some, PW.op_none, PW.rv_0, PW.rv_s, PW.rb_0, PW.rb_0o, PW.rb_s, PW.ro_0, PW.ro_0o, PW.ro_s, PW.ng_int, PW.bk_bl, PW.ln_ok, PW.iv_lst, PW.iv_tup, PW.iv_str, PW.r1_int, PW.r2_int, PW.zp_lst, PW.en_lst, PW.ti_int, PW.e_cst, PW.e_glb, PW.e_var, PW.e_bor, PW.e_bin, PW.e_neg, PW.e_not, PW.e_and, PW.e_or, PW.e_ite, PW.e_isn, PW.e_notn, PW.e_eq, PW.e_ne, PW.e_lt, PW.e_le, PW.e_gt, PW.e_ge, PW.e_in, PW.e_nin, PW.e_chn, PW.e_tup, PW.e_lst, PW.e_idx, PW.d_lst, PW.d_tup, PW.d_str, PW.d_loc, PW.e_slc, PW.o_none, PW.o_some, PW.e_att, PW.e_atO, PW.e_bif, PW.e_isi, PW.e_call, PW.e_make, PW.e_meth, PW.a_nil, PW.a_cons, PW.t_not, PW.t_and, PW.t_or, PW.tr_bl, PW.tr_int, PW.tr_non, PW.tr_lst, PW.tr_tup, PW.t_cmp, PW.t_chn, PW.t_var, PW.t_bor, PW.t_call, PW.t_meth, PW.t_bif, PW.t_isi, PW.t_idx, PW.t_att, PW.t_atO, PW.t_lc, PW.t_cst, PW.i_val, PW.i_rng1, PW.i_rng2, PW.i_zip, PW.i_enum, PW.e_lc, PW.p_add, PW.p_sub, PW.p_mulR, PW.p_mulL, PW.p_mod, PW.p_div, PW.p_pow, PW.p_catL, PW.p_catT, PW.p_catS, PW.p_rep, PW.c_lt, PW.c_gt, PW.c_le, PW.c_ge, PW.c_ltS, PW.c_eqI, PW.c_neI, PW.c_eqS, PW.c_neS, PW.c_chI, PW.c_chL, PW.c_chS, PW.f_lL, PW.f_lT, PW.f_lS, PW.f_int, PW.f_intB, PW.f_abs, PW.f_tupL, PW.f_tupT, PW.f_lstL, PW.f_lstT, PW.f_max, PW.f_min, PW.f_slcL, PW.f_slcT, PW.s_nil, PW.s_p, PW.s_k, PW.s_d, PW.g_0, PW.g_s, PW.op_bind, PW.x_idxL, PW.x_idxT, PW.x_idxLn, PW.x_idxTn, PW.cut_nn, PW.cut_sn, PW.cut_ns, PW.cut_snN, PW.cut_nsN, PW.pen_get, PW.c_neE, PW.c_eqE, PW.c_neET, PW.c_eqET, PW.x_idxLm, PW.x_idxTm, PW.is_ii, PW.is_ib, PW.is_ss, PW.is_ll, PW.is_lt, PW.is_cc, PW.f_allT, PW.f_sl63, if_true, if_false, Bool.not_true, Bool.not_false, Bool.false_eq_true, decide_eq_true_eq, PF.isNon, Bool.not_eq_true', decide_eq_false_iff_not, reduceIte, List.getD_cons_zero, List.getD_cons_succ, Int.reduceToNat, List.length_cons, List.length_nil, Nat.reduceAdd, Int.cast_ofNat_Int, List.eraseIdx_cons_zero, List.eraseIdx_cons_succ, List.nil_append, List.cons_append, List.append_nil, Bool.true_eq_false, not_true_eq_false, not_false_eq_true, K51.x_begin, K51.x_lap, K51.m_day, K51.m_sh, K51.m_least, K51.c_neV, K51.c_eqV])
local macro_rules | `(tactic| walk_at "pd") => `(tactic| simp -implicitDefEqProofs (disch := first | omega | exact ⟨by omega, digest_small (by omega)⟩) only [PW.w_ret_eq, PW.op_some, PW.op_none, PW.rv_0, PW.rv_s, PW.rb_0, PW.rb_0o, PW.rb_s, PW.ro_0, PW.ro_0o, PW.ro_s, PW.ng_int, PW.bk_bl, PW.ln_ok, PW.iv_lst, PW.iv_tup, PW.iv_str, PW.r1_int, PW.r2_int, PW.zp_lst, PW.en_lst, PW.ti_int, PW.e_cst, PW.e_glb, PW.e_var, PW.e_bor, PW.e_bin, PW.e_neg, PW.e_not, PW.e_and, PW.e_or, PW.e_ite, PW.e_isn, PW.e_notn, PW.e_eq, PW.e_ne, PW.e_lt, PW.e_le, PW.e_gt, PW.e_ge, PW.e_in, PW.e_nin, PW.e_chn, PW.e_tup, PW.e_lst, PW.e_idx, PW.d_lst, PW.d_tup, PW.d_str, PW.d_loc, PW.e_slc, PW.o_none, PW.o_some, PW.e_att, PW.e_atO, PW.e_bif, PW.e_isi, PW.e_call, PW.e_make, PW.e_meth, PW.a_nil, PW.a_cons, PW.t_not, PW.t_and, PW.t_or, PW.tr_bl, PW.tr_int, PW.tr_non, PW.tr_lst, PW.tr_tup, PW.t_cmp, PW.t_chn, PW.t_var, PW.t_bor, PW.t_call, PW.t_meth, PW.t_bif, PW.t_isi, PW.t_idx, PW.t_att, PW.t_atO, PW.t_lc, PW.t_cst, PW.i_val, PW.i_rng1, PW.i_rng2, PW.i_zip, PW.i_enum, PW.e_lc, PW.p_add, PW.p_sub, PW.p_mulR, PW.p_mulL, PW.p_mod, PW.p_div, PW.p_pow, PW.p_catL, PW.p_catT, PW.p_catS, PW.p_rep, PW.c_lt, PW.c_gt, PW.c_le, PW.c_ge, PW.c_ltS, PW.c_eqI, PW.c_neI, PW.c_eqS, PW.c_neS, PW.c_chI, PW.c_chL, PW.c_chS, PW.f_lL, PW.f_lT, PW.f_lS, PW.f_int, PW.f_intB, PW.f_abs, PW.f_tupL, PW.f_tupT, PW.f_lstL, PW.f_lstT, PW.f_max, PW.f_min, PW.f_slcL, PW.f_slcT, PW.s_nil, PW.s_p, PW.s_k, PW.s_d, PW.g_0, PW.g_s, PW.op_bind, PW.x_idxL, PW.x_idxT, PW.x_idxLn, PW.x_idxTn, PW.cut_nn, PW.cut_sn, PW.cut_ns, PW.cut_snN, PW.cut_nsN, PW.pen_get, PW.c_neE, PW.c_eqE, PW.c_neET, PW.c_eqET, PW.x_idxLm, PW.x_idxTm, PW.is_ii, PW.is_ib, PW.is_ss, PW.is_ll, PW.is_lt, PW.is_cc, PW.f_allT, PW.f_sl63, if_true, if_false, Bool.not_true, Bool.not_false, Bool.false_eq_true, decide_eq_true_eq, PF.isNon, Bool.not_eq_true', decide_eq_false_iff_not, reduceIte, List.getD_cons_zero, List.getD_cons_succ, Int.reduceToNat, List.length_cons, List.length_nil, Nat.reduceAdd, Int.cast_ofNat_Int, List.eraseIdx_cons_zero, List.eraseIdx_cons_succ, List.nil_append, List.cons_append, List.append_nil, Bool.true_eq_false, not_true_eq_false, not_false_eq_true, K51.x_begin, K51.x_lap, K51.m_day, K51.m_sh, K51.m_least, K51.c_neV, K51.c_eqV])
local macro_rules | `(tactic| walk_at "ps") => `(tactic| first
  | with_reducible refine' ws_set ?_ | with_reducible refine' ws_setO ?_ | with_reducible refine' ws_par ?_ | with_reducible refine' ws_unp ?_ | with_reducible refine' ws_exp ?_ | with_reducible refine' ws_pas ?_
  | ((with_reducible refine' ws_ret ?hlv ?_); (case hlv => walk_at "lv"))
  | ((with_reducible refine' ws_retN ?hlv ?_); (case hlv => walk_at "lv"))
  | ((with_reducible refine' ws_retNew ?hlv ?_); (case hlv => walk_at "lv"))
  | with_reducible refine' ws_iff ?_ | with_reducible refine' ws_nilT ?_ | with_reducible refine' ws_nilL ?_ | with_reducible refine' ws_nilF ?_ | with_reducible refine' ws_nilI ?_
  | with_reducible refine' ws_for ?_ | with_reducible refine' ws_whl ?_
  | ((with_reducible refine' ws_frz ?_); simp only [frzE, List.getElem?_cons_zero, List.getElem?_cons_succ, List.set_cons_zero, List.set_cons_succ])
  | with_reducible refine' ws_fld ?_ | with_reducible refine' ws_app ?_ | with_reducible refine' ws_ext ?_ | with_reducible refine' ws_appop ?_ | with_reducible refine' ws_sub ?_ | with_reducible refine' th_nxt ?_ | with_reducible refine' lo_nxt ?_ | with_reducible refine' lo_cnt ?_ | with_reducible refine' lo_brk ?_ | with_reducible refine' th_brk ?_ | with_reducible refine' th_cnt ?_ | with_reducible refine' ws_brk ?_ | with_reducible refine' ws_cnt ?_
  | ((with_reducible show (chkB _ _ = true ∧ _)); refine' ⟨rfl, ?_⟩)
  | ((with_reducible show (∃ kk ρ' S', PV.int _ = PV.int kk ∧ mutL _ _ _ _ = _ ∧ _)); (first | refine' ⟨_, _, _, rfl, pen_put1 rfl, ?_⟩ | refine' ⟨_, _, _, rfl, pen_put2 rfl, ?_⟩))
  | ((with_reducible refine' br_tt ?_)) | ((with_reducible refine' br_ff ?_))
  | ((with_reducible show (∃ ρ', SetA _ _ _ ρ' ∧ _)); refine' ⟨_, ?hsa, ?_⟩; (case hsa => walk_at "seta"))
  | ((with_reducible show (∃ xs ρ', PV.lst _ = PV.lst xs ∧ SetA _ _ _ ρ' ∧ _)); refine' ⟨_, _, rfl, ?hsa, ?_⟩; (case hsa => walk_at "seta"))
  | ((with_reducible show (∃ s t ρ1 ρ2, slOf _ _ = some s ∧ slOf _ _ = some t ∧ _)); refine' ⟨_, _, _, _, rfl, rfl, ?hsa, ?hsb, ?_⟩; (case hsa => walk_at "seta"); (case hsb => walk_at "seta"))
  | ((with_reducible show (∃ ρ', asgT _ _ _ = some ρ' ∧ _)); refine' ⟨_, ?hsa, ?_⟩; (case hsa => walk_at "asg")))
local macro_rules | `(tactic| walk_at "pw") => `(tactic| repeat (first | walk_at "ps" | walk_at "pe"))
local macro_rules | `(tactic| walk_at "pwd") => `(tactic| repeat (first | walk_at "ps" | walk_at "pe" | walk_at "pd"))
local macro_rules | `(tactic| walk_at "fn") => `(tactic| (refine' w_fnC ?h1 ?h2 ?h3 ?_; (case h1 => exact rfl); (case h2 => exact rfl); (case h3 => (simp only [List.map_cons, List.map_nil, List.replicate, Nat.sub_self, List.append_nil, List.cons_append, List.nil_append]; exact rfl)); show WS _ _ (.cons _ _) _ _ _))
local macro_rules | `(tactic| walk_at "new") => `(tactic| (refine' w_newC ?h0 ?h1 ?h2 ?h3 ?_; (case h0 => exact rfl); (case h1 => exact rfl); (case h2 => exact rfl); (case h3 => (simp only [List.map_cons, List.map_nil, List.replicate, Nat.sub_self, List.append_nil, List.cons_append, List.nil_append]; exact rfl)); show WS _ _ (.cons _ _) _ _ _))

local macro_rules | `(tactic| walk_at "wl") => `(tactic| (refine' wl_cons ?ha ?_; (case ha => walk_at "asg")))
local macro_rules | `(tactic| walk_at "appop") => `(tactic| (refine' ⟨_, _, _, _, _, _, _, rfl, rfl, rfl, rfl, rfl, ?ha, ?hm, ?_⟩; (case ha => walk_at "seta"); (case hm => (refine' mut_own rfl rfl ?hb; (case hb => walk_at "seta")))))
local macro_rules | `(tactic| walk_at "fin") => `(tactic| first | done | exact trivial | exact rfl | (and_intros <;> first | exact rfl | exact trivial))

section
variable {S : Sto} {Q : PV → Sto → Prop} {b l f a : List Lt} {ns : List Int} {c : Int} {P : Res → Prop} {s0 s1 s2 s3 s4 s5 s6 s7 s8 s9 s12 s13 s14 s15 : Sl}
theorem q_pen (n : Nat) (h : ns.length ≤ 63) : W ((cal pg (n+1)).fn 19 [.scr ns]) [] fun v S1 => v = .loc 0 ∧ S1 = pen ns 0 0 := by
  walk_at "fn"
  walk_at "pw"
  rw [← List.map_take]
  walk_at "pw"
  refine' lc_map (f := PV.int) (g := PV.int) (fun j hj => ?_) ?_
  · refine' lcF_none ?ha ?_
    case ha => walk_at "asg"
    walk_at "pe"
    walk_at "fin"
  walk_at "pw"
  refine' ⟨by decide, trivial, ?_⟩
  show [] ++ [[PV.lst _, .int 0, .int 0]] = _
  rw [List.nil_append, List.take_of_length_le (by omega)]; rfl
theorem shows_lv (z : Lt) : Shows (lv z) := rp_shows (n := 1000) (by cases z <;> exact ⟨_, rfl, by decide +kernel, by decide +kernel, by decide +kernel, by decide +kernel⟩) (by decide) (by cases z <;> rfl)
/-- the rest of a turn -/
def rs1 : Stts := tlS (tlS (tlS (forB (tlS b28))))
def rs2 : Stts := tlS (tlS rs1)
def rs3 : Stts := tlS rs2
theorem rs1_ (hns : ns.length ≤ 63) (hS : Pn ns c S) (hc : c < 5000) (hl : l ≠ [] ∧ l.length ≤ 15 ∧ b.length ≤ 4)
    (k : ∀ s4 s5 S1, Pn ns (c + 3) S1 → s4 = .val (cv b l) → WS pg (cal pg 39) rs2 [s0, .val (.loc 0), s2, s3, s4, s5, s6, s7, s8, s9, .val (.lst (b.map lv)), .val (.lst (l.map lv)), s12, s13, s14, s15] S1 P) :
    WS pg (cal pg 39) rs1 [s0, .val (.loc 0), s2, s3, s4, s5, s6, s7, s8, s9, .val (.lst (b.map lv)), .val (.lst (l.map lv)), s12, s13, s14, s15] S P := by
  show WS pg _ (.cons _ _) _ _ _
  walk_at "pw"
  rw [q_newL ⟨by omega, by omega, hl.1⟩]
  walk_at "pw"
  refine' w_imp (dr 38 hns hS (by omega) (by omega)) ?_
  rintro _ S1 ⟨d1, rfl, hd1, hS1⟩
  walk_at "pw"
  refine' w_imp (dr 38 hns hS1 (by omega) (by omega)) ?_
  rintro _ S2 ⟨d2, rfl, hd2, hS2⟩
  walk_at "pw"
  refine' w_imp (dr 38 hns hS2 (by omega) (by omega)) ?_
  rintro _ S3 ⟨d3, rfl, hd3, hS3⟩
  walk_at "pw"
  refine' wl_byL (l := [1 + d1, 1 + d2, 10 ^ 30 - d3, 1, ((b.map lv).length : Int) + 1, ((b.map lv).length : Int) + ((l.map lv).length : Int)]) (f := PV.int) (fun pre ρ S' => S' = S3 ∧ ∃ s5, ρ = [s0, .val (.loc 0), s2, s3, .val (cv b l), s5, s6, s7, s8, s9, .val (.lst (b.map lv)), .val (.lst (l.map lv)), s12, s13, s14, s15]) ⟨rfl, _, rfl⟩ ?_ ?_
  · rintro pre x post ρ S' e ⟨rfl, s5, rfl⟩
    have hx : 1 ≤ x ∧ x ≤ 1000000000000000000000000000000 := by
      have hp := List.length_pos_iff.mpr hl.1
      have : x ∈ [1 + d1, 1 + d2, 10 ^ 30 - d3, 1, ((b.map lv).length : Int) + 1, ((b.map lv).length : Int) + ((l.map lv).length : Int)] := by
        rw [e]; exact List.mem_append_right _ (List.mem_cons_self ..)
      simp only [List.mem_cons, List.not_mem_nil, or_false, List.length_map] at this
      rcases this with h | h | h | h | h | h <;> omega
    refine' ⟨_, ?ha, ?_⟩
    case ha => walk_at "asg"
    walk_at "pw"
    rw [q_day hx hl.1]
    obtain ⟨z, hz⟩ := shows_lv (sq .e b l (x - 1).toNat)
    rw [op_by hz]
    walk_at "pw"
    rw [q_lat hx.1 hl.1]
    walk_at "pw"
    rw [op_by hz]
    walk_at "pw"
    rw [beq_self_eq_true]
    walk_at "pw"
    exact ⟨trivial, _, rfl⟩
  · rintro ρ S' ⟨rfl, s5, rfl⟩
    exact k _ _ _ (hS3.up (by omega)) rfl
theorem rs2_ (hns : ns.length ≤ 63) (hS : Pn ns c S) (hc : c < 5000) (hl : l ≠ [] ∧ l.length ≤ 15 ∧ b.length ≤ 4)
    (k : ∀ s5 s6 s13 S1, Pn ns (c + 3) S1 → WS pg (cal pg 39) rs3 [s0, .val (.loc 0), s2, s3, .val (cv b l), s5, s6, s7, s8, s9, .val (.lst (b.map lv)), .val (.lst (l.map lv)), s12, s13, s14, s15] S1 P) :
    WS pg (cal pg 39) rs2 [s0, .val (.loc 0), s2, s3, .val (cv b l), s5, s6, s7, s8, s9, .val (.lst (b.map lv)), .val (.lst (l.map lv)), s12, s13, s14, s15] S P := by
  show WS pg _ (.cons _ _) _ _ _
  walk_at "pw"
  refine' w_imp (dr 38 hns hS (by omega) (by omega)) ?_
  rintro _ S1 ⟨d1, rfl, hd1, hS1⟩
  walk_at "pw"
  refine' w_imp (dr 38 hns hS1 (by omega) (by omega)) ?_
  rintro _ S2 ⟨d2, rfl, hd2, hS2⟩
  walk_at "pw"
  refine' w_imp (dr 38 hns hS2 (by omega) (by omega)) ?_
  rintro _ S3 ⟨d3, rfl, hd3, hS3⟩
  walk_at "pw"
  refine' wl_byL (l := [d1, d2, 10 ^ 29 + d3, 0]) (f := PV.int) (fun pre ρ S' => S' = S3 ∧ ∃ s5 s6 s13, ρ = [s0, .val (.loc 0), s2, s3, .val (cv b l), s5, s6, s7, s8, s9, .val (.lst (b.map lv)), .val (.lst (l.map lv)), s12, s13, s14, s15]) ⟨rfl, _, _, _, rfl⟩ ?_ ?_
  · rintro pre x post ρ S' e ⟨rfl, s5, s6, s13, rfl⟩
    have hx : 0 ≤ x ∧ x ≤ 500000000000000000000000000000 := by
      have : x ∈ [d1, d2, 10 ^ 29 + d3, 0] := by
        rw [e]; exact List.mem_append_right _ (List.mem_cons_self ..)
      simp only [List.mem_cons, List.not_mem_nil, or_false] at this
      rcases this with h | h | h | h <;> omega
    have hsl : shL b l x ≠ [] := fun z => by
      have := sh_len (b := b) (l := l) (d := x)
      rw [z] at this
      exact hl.1 (List.length_eq_zero_iff.mp this.symm)
    refine' ⟨_, ?ha, ?_⟩
    case ha => walk_at "asg"
    walk_at "pw"
    rw [q_sh ⟨hx.1, by omega⟩ ⟨by omega, by omega, hl.1⟩]
    walk_at "pw"
    rw [if_neg (by rw [List.length_map, List.length_map]; unfold shB; rw [List.length_drop]; omega)]
    rw [List.length_map, List.length_map, sh_len, beq_self_eq_true]
    walk_at "pw"
    refine' wl_rng (fun m ρ S'' => S'' = S' ∧ ∃ s5, ρ = [s0, .val (.loc 0), s2, s3, .val (cv b l), s5, .val (.int x), s7, s8, s9, .val (.lst (b.map lv)), .val (.lst (l.map lv)), s12, .val (cv (shB b x) (shL b l x)), s14, s15]) ⟨rfl, _, rfl⟩ ?_ ?_
    · rintro m ρ S'' hm ⟨rfl, s5, rfl⟩
      refine' ⟨_, ?ha, ?_⟩
      case ha => walk_at "asg"
      have hm2 : m < 11 := by omega
      walk_at "pw"
      rw [q_day (by omega) hsl]
      walk_at "pw"
      rw [q_lat (by omega) hl.1]
      walk_at "pw"
      rw [sh_sq hx.1 hl.1, show (1 + (m : Int) - 1).toNat + x.toNat = (1 + (m : Int) + x - 1).toNat by omega, decide_eq_true rfl]
      walk_at "pw"
      exact ⟨trivial, _, rfl⟩
    · rintro ρ S'' ⟨rfl, s5, rfl⟩
      walk_at "pw"
      exact ⟨trivial, _, _, _, rfl⟩
  · rintro ρ S' ⟨rfl, s5, s6, s13, rfl⟩
    exact k _ _ _ _ (hS3.up (by omega))
end
end K51

set_option Elab.async false
set_option linter.all false
set_option maxRecDepth 100000
set_option maxHeartbeats 4000000
namespace K51
open PySem L2 PF PW
local macro_rules | `(tactic| walk_at "lv") => `(tactic| first | with_reducible exact lv_fn | ((with_reducible refine' lv_th ?hl); (case hl => walk_at "lv")) | ((with_reducible refine' lv_lo ?hl); (case hl => walk_at "lv")))
local macro_rules | `(tactic| walk_at "seta") => `(tactic| first | with_reducible exact SetA.z | ((with_reducible refine' SetA.s ?hss); (case hss => walk_at "seta")))
local macro_rules | `(tactic| walk_at "setas") => `(tactic| first | with_reducible exact SetAs.nil | ((with_reducible refine' SetAs.cons ?hsa ?hsb); (case hsa => walk_at "seta"); (case hsb => walk_at "setas")))
local macro_rules | `(tactic| walk_at "wipea") => `(tactic| first | with_reducible exact WipeA.nil | (refine' WipeA.cons ?hwr ?hws; (case hwr => walk_at "wipea"); (case hws => walk_at "seta")))
local macro_rules | `(tactic| walk_at "asg") => `(tactic| first | ((with_reducible refine' asg_nm ?hsa); (case hsa => walk_at "seta")) | ((with_reducible refine' asg_tp ?hsa); (case hsa => walk_at "setas")) | ((with_reducible refine' asg_w ?hw1 ?hw2); (case hw1 => walk_at "wipea"); (case hw2 => walk_at "asg")))
local macro_rules | `(tactic| walk_at "pe") => `(tactic| simp -implicitDefEqProofs (disch := first | omega | with_reducible assumption | (simp only [List.length_map, List.length_append, List.length_cons, List.length_nil, List.length_replicate, List.length_range, List.length_drop, List.length_take]; omega) | exact okNs_ints | ((with_reducible show decide _ = true); decide)) only [PW.w_ret_eq, PW.op_some, PW.op_none, PW.rv_0, PW.rv_s, PW.rb_0, PW.rb_0o, PW.rb_s, PW.ro_0, PW.ro_0o, PW.ro_s, PW.ng_int, PW.bk_bl, PW.ln_ok, PW.iv_lst, PW.iv_tup, PW.iv_str, PW.r1_int, PW.r2_int, PW.zp_lst, PW.en_lst, PW.ti_int, PW.e_cst, PW.e_glb, PW.e_var, PW.e_bor, PW.e_bin, PW.e_neg, PW.e_not, PW.e_and, PW.e_or, PW.e_ite, PW.e_isn, PW.e_notn, PW.e_eq, PW.e_ne, PW.e_lt, PW.e_le, PW.e_gt, PW.e_ge, PW.e_in, PW.e_nin, PW.e_chn, PW.e_tup, PW.e_lst, PW.e_idx, PW.d_lst, PW.d_tup, PW.d_str, PW.d_loc, PW.e_slc, PW.o_none, PW.o_some, PW.e_att, PW.e_atO, PW.e_bif, PW.e_isi, PW.e_call, PW.e_make, PW.e_meth, PW.a_nil, PW.a_cons, PW.t_not, PW.t_and, PW.t_or, PW.tr_bl, PW.tr_int, PW.tr_non, PW.tr_lst, PW.tr_tup, PW.t_cmp, PW.t_chn, PW.t_var, PW.t_bor, PW.t_call, PW.t_meth, PW.t_bif, PW.t_isi, PW.t_idx, PW.t_att, PW.t_atO, PW.t_lc, PW.t_cst, PW.i_val, PW.i_rng1, PW.i_rng2, PW.i_zip, PW.i_enum, PW.e_lc, PW.p_add, PW.p_sub, PW.p_mulR, PW.p_mulL, PW.p_mod, PW.p_div, PW.p_pow, PW.p_catL, PW.p_catT, PW.p_catS, PW.p_rep, PW.c_lt, PW.c_gt, PW.c_le, PW.c_ge, PW.c_ltS, PW.c_eqI, PW.c_neI, PW.c_eqS, PW.c_neS, PW.c_chI, PW.c_chL, PW.c_chS, PW.f_lL, PW.f_lT, PW.f_lS, PW.f_int, PW.f_intB, PW.f_abs, PW.f_tupL, PW.f_tupT, PW.f_lstL, PW.f_lstT, PW.f_max, PW.f_min, PW.f_slcL, PW.f_slcT, PW.s_nil, PW.s_p, PW.s_k, PW.s_d, PW.g_0, PW.g_s, PW.op_bind, PW.x_idxL, PW.x_idxT, PW.x_idxLn, PW.x_idxTn, PW.cut_nn, PW.cut_sn, PW.cut_ns, PW.cut_snN, PW.cut_nsN, PW.pen_get, PW.c_neE, PW.c_eqE, PW.c_neET, PW.c_eqET, PW.x_idxLm, PW.x_idxTm, PW.is_ii, PW.is_ib, PW.is_ss, PW.is_ll, PW.is_lt, PW.is_cc, PW.f_allT, PW.f_sl63, if_true, if_false, Bool.not_true, Bool.not_false, Bool.false_eq_true, decide_eq_true_eq, PF.isNon, Bool.not_eq_true', decide_eq_false_iff_not, reduceIte, List.getD_cons_zero, List.getD_cons_succ, Int.reduceToNat, List.length_cons, List.length_nil, Nat.reduceAdd, Int.cast_ofNat_Int, List.eraseIdx_cons_zero, List.eraseIdx_cons_succ, List.nil_append, List.cons_append, List.append_nil, Bool.true_eq_false, not_true_eq_false, not_false_eq_true, K51.x_begin, K51.x_lap, K51.m_day, K51.m_sh, K51.m_least, K51.c_neV, K51.c_eqV])
local macro_rules | `(tactic| walk_at "pd") => `(tactic| simp -implicitDefEqProofs (disch := first | omega | exact ⟨by omega, digest_small (by omega)⟩) only [PW.w_ret_eq, PW.op_some, PW.op_none, PW.rv_0, PW.rv_s, PW.rb_0, PW.rb_0o, PW.rb_s, PW.ro_0, PW.ro_0o, PW.ro_s, PW.ng_int, PW.bk_bl, PW.ln_ok, PW.iv_lst, PW.iv_tup, PW.iv_str, PW.r1_int, PW.r2_int, PW.zp_lst, PW.en_lst, PW.ti_int, PW.e_cst, PW.e_glb, PW.e_var, PW.e_bor, PW.e_bin, PW.e_neg, PW.e_not, PW.e_and, PW.e_or, PW.e_ite, PW.e_isn, PW.e_notn, PW.e_eq, PW.e_ne, PW.e_lt, PW.e_le, PW.e_gt, PW.e_ge, PW.e_in, PW.e_nin, PW.e_chn, PW.e_tup, PW.e_lst, PW.e_idx, PW.d_lst, PW.d_tup, PW.d_str, PW.d_loc, PW.e_slc, PW.o_none, PW.o_some, PW.e_att, PW.e_atO, PW.e_bif, PW.e_isi, PW.e_call, PW.e_make, PW.e_meth, PW.a_nil, PW.a_cons, PW.t_not, PW.t_and, PW.t_or, PW.tr_bl, PW.tr_int, PW.tr_non, PW.tr_lst, PW.tr_tup, PW.t_cmp, PW.t_chn, PW.t_var, PW.t_bor, PW.t_call, PW.t_meth, PW.t_bif, PW.t_isi, PW.t_idx, PW.t_att, PW.t_atO, PW.t_lc, PW.t_cst, PW.i_val, PW.i_rng1, PW.i_rng2, PW.i_zip, PW.i_enum, PW.e_lc, PW.p_add, PW.p_sub, PW.p_mulR, PW.p_mulL, PW.p_mod, PW.p_div, PW.p_pow, PW.p_catL, PW.p_catT, PW.p_catS, PW.p_rep, PW.c_lt, PW.c_gt, PW.c_le, PW.c_ge, PW.c_ltS, PW.c_eqI, PW.c_neI, PW.c_eqS, PW.c_neS, PW.c_chI, PW.c_chL, PW.c_chS, PW.f_lL, PW.f_lT, PW.f_lS, PW.f_int, PW.f_intB, PW.f_abs, PW.f_tupL, PW.f_tupT, PW.f_lstL, PW.f_lstT, PW.f_max, PW.f_min, PW.f_slcL, PW.f_slcT, PW.s_nil, PW.s_p, PW.s_k, PW.s_d, PW.g_0, PW.g_s, PW.op_bind, PW.x_idxL, PW.x_idxT, PW.x_idxLn, PW.x_idxTn, PW.cut_nn, PW.cut_sn, PW.cut_ns, PW.cut_snN, PW.cut_nsN, PW.pen_get, PW.c_neE, PW.c_eqE, PW.c_neET, PW.c_eqET, PW.x_idxLm, PW.x_idxTm, PW.is_ii, PW.is_ib, PW.is_ss, PW.is_ll, PW.is_lt, PW.is_cc, PW.f_allT, PW.f_sl63, if_true, if_false, Bool.not_true, Bool.not_false, Bool.false_eq_true, decide_eq_true_eq, PF.isNon, Bool.not_eq_true', decide_eq_false_iff_not, reduceIte, List.getD_cons_zero, List.getD_cons_succ, Int.reduceToNat, List.length_cons, List.length_nil, Nat.reduceAdd, Int.cast_ofNat_Int, List.eraseIdx_cons_zero, List.eraseIdx_cons_succ, List.nil_append, List.cons_append, List.append_nil, Bool.true_eq_false, not_true_eq_false, not_false_eq_true, K51.x_begin, K51.x_lap, K51.m_day, K51.m_sh, K51.m_least, K51.c_neV, K51.c_eqV])
local macro_rules | `(tactic| walk_at "ps") => `(tactic| first
  | with_reducible refine' ws_set ?_ | with_reducible refine' ws_setO ?_ | with_reducible refine' ws_par ?_ | with_reducible refine' ws_unp ?_ | with_reducible refine' ws_exp ?_ | with_reducible refine' ws_pas ?_
  | ((with_reducible refine' ws_ret ?hlv ?_); (case hlv => walk_at "lv"))
  | ((with_reducible refine' ws_retN ?hlv ?_); (case hlv => walk_at "lv"))
  | ((with_reducible refine' ws_retNew ?hlv ?_); (case hlv => walk_at "lv"))
  | with_reducible refine' ws_iff ?_ | with_reducible refine' ws_nilT ?_ | with_reducible refine' ws_nilL ?_ | with_reducible refine' ws_nilF ?_ | with_reducible refine' ws_nilI ?_
  | with_reducible refine' ws_for ?_ | with_reducible refine' ws_whl ?_
  | ((with_reducible refine' ws_frz ?_); simp only [frzE, List.getElem?_cons_zero, List.getElem?_cons_succ, List.set_cons_zero, List.set_cons_succ])
  | with_reducible refine' ws_fld ?_ | with_reducible refine' ws_app ?_ | with_reducible refine' ws_ext ?_ | with_reducible refine' ws_appop ?_ | with_reducible refine' ws_sub ?_ | with_reducible refine' th_nxt ?_ | with_reducible refine' lo_nxt ?_ | with_reducible refine' lo_cnt ?_ | with_reducible refine' lo_brk ?_ | with_reducible refine' th_brk ?_ | with_reducible refine' th_cnt ?_ | with_reducible refine' ws_brk ?_ | with_reducible refine' ws_cnt ?_
  | ((with_reducible show (chkB _ _ = true ∧ _)); refine' ⟨rfl, ?_⟩)
  | ((with_reducible show (∃ kk ρ' S', PV.int _ = PV.int kk ∧ mutL _ _ _ _ = _ ∧ _)); (first | refine' ⟨_, _, _, rfl, pen_put1 rfl, ?_⟩ | refine' ⟨_, _, _, rfl, pen_put2 rfl, ?_⟩))
  | ((with_reducible refine' br_tt ?_)) | ((with_reducible refine' br_ff ?_))
  | ((with_reducible show (∃ ρ', SetA _ _ _ ρ' ∧ _)); refine' ⟨_, ?hsa, ?_⟩; (case hsa => walk_at "seta"))
  | ((with_reducible show (∃ xs ρ', PV.lst _ = PV.lst xs ∧ SetA _ _ _ ρ' ∧ _)); refine' ⟨_, _, rfl, ?hsa, ?_⟩; (case hsa => walk_at "seta"))
  | ((with_reducible show (∃ s t ρ1 ρ2, slOf _ _ = some s ∧ slOf _ _ = some t ∧ _)); refine' ⟨_, _, _, _, rfl, rfl, ?hsa, ?hsb, ?_⟩; (case hsa => walk_at "seta"); (case hsb => walk_at "seta"))
  | ((with_reducible show (∃ ρ', asgT _ _ _ = some ρ' ∧ _)); refine' ⟨_, ?hsa, ?_⟩; (case hsa => walk_at "asg")))
local macro_rules | `(tactic| walk_at "pw") => `(tactic| repeat (first | walk_at "ps" | walk_at "pe"))
local macro_rules | `(tactic| walk_at "pwd") => `(tactic| repeat (first | walk_at "ps" | walk_at "pe" | walk_at "pd"))
local macro_rules | `(tactic| walk_at "fn") => `(tactic| (refine' w_fnC ?h1 ?h2 ?h3 ?_; (case h1 => exact rfl); (case h2 => exact rfl); (case h3 => (simp only [List.map_cons, List.map_nil, List.replicate, Nat.sub_self, List.append_nil, List.cons_append, List.nil_append]; exact rfl)); show WS _ _ (.cons _ _) _ _ _))
local macro_rules | `(tactic| walk_at "new") => `(tactic| (refine' w_newC ?h0 ?h1 ?h2 ?h3 ?_; (case h0 => exact rfl); (case h1 => exact rfl); (case h2 => exact rfl); (case h3 => (simp only [List.map_cons, List.map_nil, List.replicate, Nat.sub_self, List.append_nil, List.cons_append, List.nil_append]; exact rfl)); show WS _ _ (.cons _ _) _ _ _))

local macro_rules | `(tactic| walk_at "wl") => `(tactic| (refine' wl_cons ?ha ?_; (case ha => walk_at "asg")))
local macro_rules | `(tactic| walk_at "appop") => `(tactic| (refine' ⟨_, _, _, _, _, _, _, rfl, rfl, rfl, rfl, rfl, ?ha, ?hm, ?_⟩; (case ha => walk_at "seta"); (case hm => (refine' mut_own rfl rfl ?hb; (case hb => walk_at "seta")))))
local macro_rules | `(tactic| walk_at "fin") => `(tactic| first | done | exact trivial | exact rfl | (and_intros <;> first | exact rfl | exact trivial))

theorem find_same {p : Nat → Bool} {N M : Nat} (h : ∀ i, p i = true → (∃ j, j < N ∧ p j = true) ∧ ∃ j, j < M ∧ p j = true) : (List.range N).find? p = (List.range M).find? p := by
  cases e : (List.range N).find? p with
  | none =>
    rw [List.find?_range_eq_none] at e
    refine (List.find?_range_eq_none.mpr fun i _ => ?_).symm
    cases hi : p i with
    | false => rfl
    | true =>
      obtain ⟨⟨j, hj, hp⟩, _⟩ := h i hi
      have := e j hj
      rw [hp] at this
      cases this
  | some i =>
    rw [List.find?_range_eq_some] at e
    obtain ⟨h1, h2, h3⟩ := e
    obtain ⟨_, j, hj, hp⟩ := h i h1
    refine (List.find?_range_eq_some.mpr ⟨h1, List.mem_range.mpr (Nat.lt_of_le_of_lt (Nat.le_of_not_lt fun z => ?_) hj), h3⟩).symm
    have := h3 j z
    rw [hp] at this
    cases this
theorem fuN_eq {b l f a : List Lt} {p q : Nat} (h1 : l ≠ []) (h2 : a ≠ []) (hp : 0 < p ∧ p ≤ 5) (hq : 0 < q ∧ q ≤ 5) (kp : per (sq .e b l) 4 p) (kq : per (sq .e f a) 4 q) : fuN b l f a (max b.length f.length + Nat.lcm l.length a.length) = fuN b l f a 59 := by
  have p1 := List.length_pos_iff.mpr h1
  have p2 := List.length_pos_iff.mpr h2
  have c1 : 0 < p * q := Nat.mul_pos hp.1 hq.1
  have c2 : p * q ≤ 5 * 5 := Nat.mul_le_mul hp.2 hq.2
  have far : ∀ {N c : Nat}, 0 < c → per (sq .e b l) N c → per (sq .e f a) N c → ∀ i, unl b l f a i = true → ∃ j, j < N + c ∧ unl b l f a j = true := by
    intro N c hc e1 e2 i hi
    refine Classical.byContradiction fun z => ?_
    have := per.ext hc e1 e2 (fun j hj => Classical.byContradiction fun w => z ⟨j, hj, decide_eq_true w⟩) i
    exact (of_decide_eq_true hi) this
  unfold fuN
  rw [find_same (M := 59) fun i hi => ⟨far (N := max b.length f.length) (c := Nat.lcm l.length a.length) (Nat.lcm_pos p1 p2) (((sq_per .e b l).up (M := max b.length f.length) (by omega)).dvd (Nat.dvd_lcm_left ..)) (((sq_per .e f a).up (M := max b.length f.length) (by omega)).dvd (Nat.dvd_lcm_right ..)) i hi, by
    obtain ⟨j, hj, hh⟩ := far (N := 4) (c := p * q) c1 (kp.dvd ⟨q, rfl⟩) (kq.dvd ⟨p, Nat.mul_comm _ _⟩) i hi
    exact ⟨j, by omega, hh⟩⟩]
theorem shows_pair {f a : List Lt} (h1 : f.length ≤ 1000) (h2 : a.length ≤ 1000) : Shows (.tup [.tup (f.map lv), .tup (a.map lv)]) := by
  have r1 : ∀ z : Lt, Rp 58 4 (lv z) := fun z => by cases z <;> exact ⟨_, rfl, by decide +kernel, by decide +kernel, by decide +kernel, by decide +kernel⟩
  have r2 : ∀ m : List Lt, m.length ≤ 1000 → Rp 59 5000 (.tup (m.map lv)) := fun m hm => rp_tup (n := 4) (fun x hx => by
    obtain ⟨z, _, rfl⟩ := List.mem_map.mp hx
    exact r1 z) (by rw [List.length_map]; omega)
  refine rp_shows (n := 20000) (rp_tup (n := 5000) (fun x hx => ?_) (by simp)) (by decide) rfl
  simp only [List.mem_cons, List.not_mem_nil, or_false] at hx
  rcases hx with rfl | rfl
  · exact r2 f h1
  · exact r2 a h2
section
variable {S : Sto} {Q : PV → Sto → Prop} {b l f a o1 o2 : List Lt} {ns : List Int} {c : Int} {P : Res → Prop} {s0 s1 s2 s3 s4 s5 s6 s7 s8 s9 s12 s13 s14 s15 : Sl} {k : Bool} {p q : Nat}
def rs4 : Stts := tlS (tlS (tlS rs3))
def rs5 : Stts := tlS rs4
theorem sh0B : shB b 0 = b := rfl
theorem sh0L : shL b l 0 = l := if_pos (by omega)
theorem rs3_ (hl : l ≠ [] ∧ l.length ≤ 15 ∧ b.length ≤ 4)
    (k : ∀ f a, Least .e (sq .e b l) f a → f.length ≤ 20 → a.length ≤ 15 → WS pg (cal pg 39) rs4 [s0, .val (.loc 0), s2, s3, .val (cv b l), s5, s6, .val (cv f a), s8, s9, .val (.lst (b.map lv)), .val (.lst (l.map lv)), s12, s13, .val (.lst (f.map lv)), .val (.lst (a.map lv))] S P) :
    WS pg (cal pg 39) rs3 [s0, .val (.loc 0), s2, s3, .val (cv b l), s5, s6, s7, s8, s9, .val (.lst (b.map lv)), .val (.lst (l.map lv)), s12, s13, s14, s15] S P := by
  show WS pg _ (.cons _ _) _ _ _
  walk_at "pw"
  refine' w_imp (least_ (n := 36) ⟨hl.1, by omega, by omega⟩) ?_
  rintro _ _ ⟨⟨f, a, rfl, hL, hf, ha⟩, rfl⟩
  walk_at "pw"
  refine' w_imp (shortest_ (n := 33) ⟨hl.1, by omega, by omega⟩) ?_
  rintro _ _ ⟨⟨f', a', rfl, hL'⟩, rfl⟩
  obtain ⟨rfl, rfl⟩ := hL.uniq hL'
  obtain ⟨z, hz⟩ := shows_pair (f := f) (a := a) (by omega) (by omega)
  walk_at "pw"
  rw [op_by hz]
  walk_at "pw"
  rw [op_by hz]
  walk_at "pw"
  rw [beq_self_eq_true]
  walk_at "pw"
  rw [q_sh ⟨by omega, by omega⟩ ⟨by omega, by omega, hl.1⟩, sh0B, sh0L]
  walk_at "pw"
  rw [q_eqC (n := 38)]
  refine' br_ff ?_
  refine' ws_nilT ?_
  exact k f a hL (by omega) (by omega)
theorem rs5_ (hl : l ≠ [] ∧ l.length ≤ 15 ∧ b.length ≤ 4) (ho : o2 ≠ [] ∧ o2.length ≤ 30 ∧ o1.length ≤ 30) (hL : Least .e (sq .e b l) f a) (hf : f.length ≤ 20) (ha : a.length ≤ 15) (hp : 0 < p ∧ p ≤ 5) (hq : 0 < q ∧ q ≤ 5) (kp : per (sq .e b l) 4 p) (kq : per (sq .e o1 o2) 4 q)
    (k : ∀ s9 S1, S1 = S → WS pg (cal pg 39) .nil [s0, .val (.loc 0), s2, s3, .val (cv b l), s5, s6, .val (cv f a), s8, s9, .val (.lst (b.map lv)), .val (.lst (l.map lv)), s12, s13, s14, s15] S1 P) (h8 : s8 = .val (.tup [.lst (o1.map lv), .lst (o2.map lv)])) :
    WS pg (cal pg 39) rs5 [s0, .val (.loc 0), s2, s3, .val (cv b l), s5, s6, .val (cv f a), s8, s9, .val (.lst (b.map lv)), .val (.lst (l.map lv)), s12, s13, s14, s15] S P := by
  subst h8
  show WS pg _ (.cons _ _) _ _ _
  walk_at "pw"
  refine' lc_filt (f := fun i : Nat => PV.int (1 + (i : Int))) (g := fun i : Nat => PV.int (1 + (i : Int))) (unl b l o1 o2) (fun j hj => ?_) ?_
  · refine' lcF_some ?ha ?_
    case ha => walk_at "asg"
    walk_at "pe"
    rw [q_lat (by omega) hl.1]
    first | rw [q_lat (by omega) ho.1] | (walk_at "pe"; rw [q_lat (by omega) ho.1])
    walk_at "pe"
    rw [show (1 + (j : Int) - 1).toNat = j by omega]
    refine' br_n (br_d (fun h => ?_) (fun h => ?_))
    · rw [show unl b l o1 o2 j = false from decide_eq_false fun z => z h]; exact ⟨rfl, trivial⟩
    · rw [show unl b l o1 o2 j = true from decide_eq_true h]; exact ⟨rfl, trivial⟩
  · walk_at "pw"
    rw [q_newL ⟨by omega, by omega, ho.1⟩]
    walk_at "pw"
    rw [q_fu (n := 36) ⟨⟨hl.1, by omega⟩, ho.1, by omega⟩ ⟨by omega, by omega⟩, fuN_eq hl.1 ho.1 hp hq kp kq]
    have hfind : (List.range 59).find? (unl b l o1 o2) = ((List.range (60 - 1 : Int).toNat).filter (unl b l o1 o2)).head? := by
      rw [List.head?_filter]; rfl
    have hmem : ∀ i ∈ (List.range (60 - 1 : Int).toNat).filter (unl b l o1 o2), i < 59 := fun i hi => List.mem_range.mp (List.mem_filter.mp hi).1
    unfold fuN
    rw [hfind]
    generalize (List.range (60 - 1 : Int).toNat).filter (unl b l o1 o2) = D at hmem ⊢
    have fin : ∀ s9, WS pg (cal pg 39) (tlS (tlS rs5)) [s0, .val (.loc 0), s2, s3, .val (cv b l), s5, s6, .val (cv f a), .val (.tup [.lst (o1.map lv), .lst (o2.map lv)]), s9, .val (.lst (b.map lv)), .val (.lst (l.map lv)), s12, s13, s14, s15] S P := by
      intro s9
      show WS pg _ (.cons _ _) _ _ _
      walk_at "pw"
      have ha0 : a ≠ [] := List.length_pos_iff.mp hL.pos
      rw [q_fu (n := 36) ⟨⟨hl.1, by omega⟩, ha0, by omega⟩ ⟨by omega, by omega⟩]
      have : fuN b l f a (max b.length f.length + Nat.lcm l.length a.length) = .non := by
        unfold fuN
        rw [List.find?_range_eq_none.mpr fun i _ => by rw [show unl b l f a i = false from decide_eq_false fun z => z (hL.eq i).symm]; rfl]
      rw [this]
      refine' br_ff ?_
      refine' ws_nilT ?_
      exact k _ _ rfl
    cases D with
    | nil =>
      obtain ⟨z, hz⟩ := shows_non
      rw [List.head?_nil]
      dsimp only
      rw [op_by hz, c_neE (okNs_map fun i _ => by simp [okN]), if_neg (by simp), op_by hz, c_neS, beq_self_eq_true]
      refine' br_ff ?_
      refine' ws_nilT ?_
      exact fin _
    | cons i D =>
      have hi := hmem i (List.mem_cons_self ..)
      obtain ⟨z, hz⟩ := shows_int (i := 1 + (i : Int)) (by omega)
      rw [List.head?_cons]
      dsimp only
      rw [op_by hz, c_neE (okNs_map fun i _ => by simp [okN]), if_pos (by simp), x_idxL (by simp only [List.map_cons, List.length_cons]; omega)]
      rw [show (List.map (fun i : Nat => PV.int (1 + (i : Int))) (i :: D)).getD (0 : Int).toNat .non = .int (1 + (i : Int)) from rfl, op_by hz, c_neS, beq_self_eq_true]
      refine' br_ff ?_
      refine' ws_nilT ?_
      exact fin _
end
end K51

set_option Elab.async false
set_option linter.all false
set_option maxRecDepth 100000
set_option maxHeartbeats 4000000
namespace K51
open PySem L2 PF PW
local macro_rules | `(tactic| walk_at "lv") => `(tactic| first | with_reducible exact lv_fn | ((with_reducible refine' lv_th ?hl); (case hl => walk_at "lv")) | ((with_reducible refine' lv_lo ?hl); (case hl => walk_at "lv")))
local macro_rules | `(tactic| walk_at "seta") => `(tactic| first | with_reducible exact SetA.z | ((with_reducible refine' SetA.s ?hss); (case hss => walk_at "seta")))
local macro_rules | `(tactic| walk_at "setas") => `(tactic| first | with_reducible exact SetAs.nil | ((with_reducible refine' SetAs.cons ?hsa ?hsb); (case hsa => walk_at "seta"); (case hsb => walk_at "setas")))
local macro_rules | `(tactic| walk_at "wipea") => `(tactic| first | with_reducible exact WipeA.nil | (refine' WipeA.cons ?hwr ?hws; (case hwr => walk_at "wipea"); (case hws => walk_at "seta")))
local macro_rules | `(tactic| walk_at "asg") => `(tactic| first | ((with_reducible refine' asg_nm ?hsa); (case hsa => walk_at "seta")) | ((with_reducible refine' asg_tp ?hsa); (case hsa => walk_at "setas")) | ((with_reducible refine' asg_w ?hw1 ?hw2); (case hw1 => walk_at "wipea"); (case hw2 => walk_at "asg")))
local macro_rules | `(tactic| walk_at "pe") => `(tactic| simp -implicitDefEqProofs (disch := first | omega | with_reducible assumption | (simp only [List.length_map, List.length_append, List.length_cons, List.length_nil, List.length_replicate, List.length_range, List.length_drop, List.length_take]; omega) | exact okNs_ints | ((with_reducible show decide _ = true); decide)) only [PW.w_ret_eq, PW.op_some, PW.op_none, PW.rv_0, PW.rv_s, PW.rb_0, PW.rb_0o, PW.rb_s, PW.ro_0, PW.ro_0o, PW.ro_s, PW.ng_int, PW.bk_bl, PW.ln_ok, PW.iv_lst, PW.iv_tup, PW.iv_str, PW.r1_int, PW.r2_int, PW.zp_lst, PW.en_lst, PW.ti_int, PW.e_cst, PW.e_glb, PW.e_var, PW.e_bor, PW.e_bin, PW.e_neg, PW.e_not, PW.e_and, PW.e_or, PW.e_ite, PW.e_isn, PW.e_notn, PW.e_eq, PW.e_ne, PW.e_lt, PW.e_le, PW.e_gt, PW.e_ge, PW.e_in, PW.e_nin, PW.e_chn, PW.e_tup, PW.e_lst, PW.e_idx, PW.d_lst, PW.d_tup, PW.d_str, PW.d_loc, PW.e_slc, PW.o_none, PW.o_some, PW.e_att, PW.e_atO, PW.e_bif, PW.e_isi, PW.e_call, PW.e_make, PW.e_meth, PW.a_nil, PW.a_cons, PW.t_not, PW.t_and, PW.t_or, PW.tr_bl, PW.tr_int, PW.tr_non, PW.tr_lst, PW.tr_tup, PW.t_cmp, PW.t_chn, PW.t_var, PW.t_bor, PW.t_call, PW.t_meth, PW.t_bif, PW.t_isi, PW.t_idx, PW.t_att, PW.t_atO, PW.t_lc, PW.t_cst, PW.i_val, PW.i_rng1, PW.i_rng2, PW.i_zip, PW.i_enum, PW.e_lc, PW.p_add, PW.p_sub, PW.p_mulR, PW.p_mulL, PW.p_mod, PW.p_div, PW.p_pow, PW.p_catL, PW.p_catT, PW.p_catS, PW.p_rep, PW.c_lt, PW.c_gt, PW.c_le, PW.c_ge, PW.c_ltS, PW.c_eqI, PW.c_neI, PW.c_eqS, PW.c_neS, PW.c_chI, PW.c_chL, PW.c_chS, PW.f_lL, PW.f_lT, PW.f_lS, PW.f_int, PW.f_intB, PW.f_abs, PW.f_tupL, PW.f_tupT, PW.f_lstL, PW.f_lstT, PW.f_max, PW.f_min, PW.f_slcL, PW.f_slcT, PW.s_nil, PW.s_p, PW.s_k, PW.s_d, PW.g_0, PW.g_s, PW.op_bind, PW.x_idxL, PW.x_idxT, PW.x_idxLn, PW.x_idxTn, PW.cut_nn, PW.cut_sn, PW.cut_ns, PW.cut_snN, PW.cut_nsN, PW.pen_get, PW.c_neE, PW.c_eqE, PW.c_neET, PW.c_eqET, PW.x_idxLm, PW.x_idxTm, PW.is_ii, PW.is_ib, PW.is_ss, PW.is_ll, PW.is_lt, PW.is_cc, PW.f_allT, PW.f_sl63, if_true, if_false, Bool.not_true, Bool.not_false, Bool.false_eq_true, decide_eq_true_eq, PF.isNon, Bool.not_eq_true', decide_eq_false_iff_not, reduceIte, List.getD_cons_zero, List.getD_cons_succ, Int.reduceToNat, List.length_cons, List.length_nil, Nat.reduceAdd, Int.cast_ofNat_Int, List.eraseIdx_cons_zero, List.eraseIdx_cons_succ, List.nil_append, List.cons_append, List.append_nil, Bool.true_eq_false, not_true_eq_false, not_false_eq_true, K51.x_begin, K51.x_lap, K51.m_day, K51.m_sh, K51.m_least, K51.c_neV, K51.c_eqV])
local macro_rules | `(tactic| walk_at "pd") => `(tactic| simp -implicitDefEqProofs (disch := first | omega | exact ⟨by omega, digest_small (by omega)⟩) only [PW.w_ret_eq, PW.op_some, PW.op_none, PW.rv_0, PW.rv_s, PW.rb_0, PW.rb_0o, PW.rb_s, PW.ro_0, PW.ro_0o, PW.ro_s, PW.ng_int, PW.bk_bl, PW.ln_ok, PW.iv_lst, PW.iv_tup, PW.iv_str, PW.r1_int, PW.r2_int, PW.zp_lst, PW.en_lst, PW.ti_int, PW.e_cst, PW.e_glb, PW.e_var, PW.e_bor, PW.e_bin, PW.e_neg, PW.e_not, PW.e_and, PW.e_or, PW.e_ite, PW.e_isn, PW.e_notn, PW.e_eq, PW.e_ne, PW.e_lt, PW.e_le, PW.e_gt, PW.e_ge, PW.e_in, PW.e_nin, PW.e_chn, PW.e_tup, PW.e_lst, PW.e_idx, PW.d_lst, PW.d_tup, PW.d_str, PW.d_loc, PW.e_slc, PW.o_none, PW.o_some, PW.e_att, PW.e_atO, PW.e_bif, PW.e_isi, PW.e_call, PW.e_make, PW.e_meth, PW.a_nil, PW.a_cons, PW.t_not, PW.t_and, PW.t_or, PW.tr_bl, PW.tr_int, PW.tr_non, PW.tr_lst, PW.tr_tup, PW.t_cmp, PW.t_chn, PW.t_var, PW.t_bor, PW.t_call, PW.t_meth, PW.t_bif, PW.t_isi, PW.t_idx, PW.t_att, PW.t_atO, PW.t_lc, PW.t_cst, PW.i_val, PW.i_rng1, PW.i_rng2, PW.i_zip, PW.i_enum, PW.e_lc, PW.p_add, PW.p_sub, PW.p_mulR, PW.p_mulL, PW.p_mod, PW.p_div, PW.p_pow, PW.p_catL, PW.p_catT, PW.p_catS, PW.p_rep, PW.c_lt, PW.c_gt, PW.c_le, PW.c_ge, PW.c_ltS, PW.c_eqI, PW.c_neI, PW.c_eqS, PW.c_neS, PW.c_chI, PW.c_chL, PW.c_chS, PW.f_lL, PW.f_lT, PW.f_lS, PW.f_int, PW.f_intB, PW.f_abs, PW.f_tupL, PW.f_tupT, PW.f_lstL, PW.f_lstT, PW.f_max, PW.f_min, PW.f_slcL, PW.f_slcT, PW.s_nil, PW.s_p, PW.s_k, PW.s_d, PW.g_0, PW.g_s, PW.op_bind, PW.x_idxL, PW.x_idxT, PW.x_idxLn, PW.x_idxTn, PW.cut_nn, PW.cut_sn, PW.cut_ns, PW.cut_snN, PW.cut_nsN, PW.pen_get, PW.c_neE, PW.c_eqE, PW.c_neET, PW.c_eqET, PW.x_idxLm, PW.x_idxTm, PW.is_ii, PW.is_ib, PW.is_ss, PW.is_ll, PW.is_lt, PW.is_cc, PW.f_allT, PW.f_sl63, if_true, if_false, Bool.not_true, Bool.not_false, Bool.false_eq_true, decide_eq_true_eq, PF.isNon, Bool.not_eq_true', decide_eq_false_iff_not, reduceIte, List.getD_cons_zero, List.getD_cons_succ, Int.reduceToNat, List.length_cons, List.length_nil, Nat.reduceAdd, Int.cast_ofNat_Int, List.eraseIdx_cons_zero, List.eraseIdx_cons_succ, List.nil_append, List.cons_append, List.append_nil, Bool.true_eq_false, not_true_eq_false, not_false_eq_true, K51.x_begin, K51.x_lap, K51.m_day, K51.m_sh, K51.m_least, K51.c_neV, K51.c_eqV])
local macro_rules | `(tactic| walk_at "ps") => `(tactic| first
  | with_reducible refine' ws_set ?_ | with_reducible refine' ws_setO ?_ | with_reducible refine' ws_par ?_ | with_reducible refine' ws_unp ?_ | with_reducible refine' ws_exp ?_ | with_reducible refine' ws_pas ?_
  | ((with_reducible refine' ws_ret ?hlv ?_); (case hlv => walk_at "lv"))
  | ((with_reducible refine' ws_retN ?hlv ?_); (case hlv => walk_at "lv"))
  | ((with_reducible refine' ws_retNew ?hlv ?_); (case hlv => walk_at "lv"))
  | with_reducible refine' ws_iff ?_ | with_reducible refine' ws_nilT ?_ | with_reducible refine' ws_nilL ?_ | with_reducible refine' ws_nilF ?_ | with_reducible refine' ws_nilI ?_
  | with_reducible refine' ws_for ?_ | with_reducible refine' ws_whl ?_
  | ((with_reducible refine' ws_frz ?_); simp only [frzE, List.getElem?_cons_zero, List.getElem?_cons_succ, List.set_cons_zero, List.set_cons_succ])
  | with_reducible refine' ws_fld ?_ | with_reducible refine' ws_app ?_ | with_reducible refine' ws_ext ?_ | with_reducible refine' ws_appop ?_ | with_reducible refine' ws_sub ?_ | with_reducible refine' th_nxt ?_ | with_reducible refine' lo_nxt ?_ | with_reducible refine' lo_cnt ?_ | with_reducible refine' lo_brk ?_ | with_reducible refine' th_brk ?_ | with_reducible refine' th_cnt ?_ | with_reducible refine' ws_brk ?_ | with_reducible refine' ws_cnt ?_
  | ((with_reducible show (chkB _ _ = true ∧ _)); refine' ⟨rfl, ?_⟩)
  | ((with_reducible show (∃ kk ρ' S', PV.int _ = PV.int kk ∧ mutL _ _ _ _ = _ ∧ _)); (first | refine' ⟨_, _, _, rfl, pen_put1 rfl, ?_⟩ | refine' ⟨_, _, _, rfl, pen_put2 rfl, ?_⟩))
  | ((with_reducible refine' br_tt ?_)) | ((with_reducible refine' br_ff ?_))
  | ((with_reducible show (∃ ρ', SetA _ _ _ ρ' ∧ _)); refine' ⟨_, ?hsa, ?_⟩; (case hsa => walk_at "seta"))
  | ((with_reducible show (∃ xs ρ', PV.lst _ = PV.lst xs ∧ SetA _ _ _ ρ' ∧ _)); refine' ⟨_, _, rfl, ?hsa, ?_⟩; (case hsa => walk_at "seta"))
  | ((with_reducible show (∃ s t ρ1 ρ2, slOf _ _ = some s ∧ slOf _ _ = some t ∧ _)); refine' ⟨_, _, _, _, rfl, rfl, ?hsa, ?hsb, ?_⟩; (case hsa => walk_at "seta"); (case hsb => walk_at "seta"))
  | ((with_reducible show (∃ ρ', asgT _ _ _ = some ρ' ∧ _)); refine' ⟨_, ?hsa, ?_⟩; (case hsa => walk_at "asg")))
local macro_rules | `(tactic| walk_at "pw") => `(tactic| repeat (first | walk_at "ps" | walk_at "pe"))
local macro_rules | `(tactic| walk_at "pwd") => `(tactic| repeat (first | walk_at "ps" | walk_at "pe" | walk_at "pd"))
local macro_rules | `(tactic| walk_at "fn") => `(tactic| (refine' w_fnC ?h1 ?h2 ?h3 ?_; (case h1 => exact rfl); (case h2 => exact rfl); (case h3 => (simp only [List.map_cons, List.map_nil, List.replicate, Nat.sub_self, List.append_nil, List.cons_append, List.nil_append]; exact rfl)); show WS _ _ (.cons _ _) _ _ _))
local macro_rules | `(tactic| walk_at "new") => `(tactic| (refine' w_newC ?h0 ?h1 ?h2 ?h3 ?_; (case h0 => exact rfl); (case h1 => exact rfl); (case h2 => exact rfl); (case h3 => (simp only [List.map_cons, List.map_nil, List.replicate, Nat.sub_self, List.append_nil, List.cons_append, List.nil_append]; exact rfl)); show WS _ _ (.cons _ _) _ _ _))

local macro_rules | `(tactic| walk_at "wl") => `(tactic| (refine' wl_cons ?ha ?_; (case ha => walk_at "asg")))
local macro_rules | `(tactic| walk_at "appop") => `(tactic| (refine' ⟨_, _, _, _, _, _, _, rfl, rfl, rfl, rfl, rfl, ?ha, ?hm, ?_⟩; (case ha => walk_at "seta"); (case hm => (refine' mut_own rfl rfl ?hb; (case hb => walk_at "seta")))))
local macro_rules | `(tactic| walk_at "fin") => `(tactic| first | done | exact trivial | exact rfl | (and_intros <;> first | exact rfl | exact trivial))

section
variable {S : Sto} {Q : PV → Sto → Prop} {b l f a o1 o2 : List Lt} {ns : List Int} {c : Int} {P : Res → Prop} {s0 s1 s2 s3 s4 s5 s6 s7 s8 s9 s12 s13 s14 s15 : Sl} {kn : Bool} {p q : Nat}
theorem rs4_ (hns : ns.length ≤ 63) (hS : Pn ns c S) (hc : c < 4000) (hl : l ≠ [] ∧ l.length ≤ 15 ∧ b.length ≤ 4) (hL : Least .e (sq .e b l) f a) (hf : f.length ≤ 20) (ha : a.length ≤ 15) (hp : 0 < p ∧ p ≤ 5) (kp : per (sq .e b l) 4 p)
    (k : ∀ s8 s9 S1, Pn ns (c + 60) S1 → WS pg (cal pg 39) .nil [s0, .val (.loc 0), s2, .val (nv kn), .val (cv b l), s5, s6, .val (cv f a), s8, s9, .val (.lst (b.map lv)), .val (.lst (l.map lv)), s12, s13, .val (.lst (f.map lv)), .val (.lst (a.map lv))] S1 P) :
    WS pg (cal pg 39) rs4 [s0, .val (.loc 0), s2, .val (nv kn), .val (cv b l), s5, s6, .val (cv f a), s8, s9, .val (.lst (b.map lv)), .val (.lst (l.map lv)), s12, s13, .val (.lst (f.map lv)), .val (.lst (a.map lv))] S P := by
  show WS pg _ (.cons _ rs5) _ _ _
  walk_at "pw"
  refine' w_imp (dr 38 hns hS (by omega) (by omega)) ?_
  rintro _ S1 ⟨d, rfl, hd, hS1⟩
  walk_at "pw"
  refine' if_by (fun h => ?_) (fun h => ?_)
  · refine' w_imp (calen 35 hns hS1 (by omega)) ?_
    rintro _ S2 ⟨⟨bs, ls, rfl, h1, h2, h3⟩, hS2⟩
    refine' ⟨_, ?hsa, ?_⟩
    case hsa => walk_at "seta"
    exact rs5_ hl ⟨List.length_pos_iff.mp (by omega), by omega, by omega⟩ hL hf ha hp ⟨by omega, h3⟩ kp ((sq_per .e bs ls).up (by omega)) (fun s9 S3 e => by subst e; exact k _ _ _ (hS2.up (by omega))) rfl
  · have ha0 := hL.pos
    rw [p_rep ⟨by omega, by rw [List.length_map]; show a.length * 2 ≤ _; omega⟩]
    refine' ⟨_, ?hsa, ?_⟩
    case hsa => walk_at "seta"
    have e : (List.replicate (2 : Int).toNat (a.map lv)).flatten = ((List.replicate 2 a).flatten).map lv := by rw [List.map_flatten, List.map_replicate]; rfl
    rw [e]
    have hlen : ((List.replicate 2 a).flatten).length = 2 * a.length := rep_len
    refine rs5_ hl ⟨List.length_pos_iff.mp (by omega), by omega, by omega⟩ hL hf ha hp hp kp ?_ (fun s9 S3 e => by subst e; exact k _ _ _ (hS1.up (by omega))) rfl
    intro i hi
    rw [sq_rep (by omega) ha0, sq_rep (by omega) ha0, hL.eq, hL.eq]
    exact kp i hi
theorem turn_ (hns : ns.length ≤ 63) (hS : Pn ns c S) (hc : c < 3900) (hl : l ≠ [] ∧ l.length ≤ 15 ∧ b.length ≤ 4) (hp : 0 < p ∧ p ≤ 5) (kp : per (sq .e b l) 4 p)
    (k : ∀ s2 s4 s5 s6 s7 s8 s9 s10 s11 s12 s13 s14 s15 S1, Pn ns (c + 90) S1 → P (.nxt [s0, .val (.loc 0), s2, .val (nv kn), s4, s5, s6, s7, s8, s9, s10, s11, s12, s13, s14, s15] S1)) :
    WS pg (cal pg 39) rs1 [s0, .val (.loc 0), s2, .val (nv kn), s4, s5, s6, s7, s8, s9, .val (.lst (b.map lv)), .val (.lst (l.map lv)), s12, s13, s14, s15] S P := by
  refine rs1_ hns hS (by omega) hl fun s4 s5 S1 h1 e => ?_
  subst e
  refine rs2_ hns h1 (by omega) hl fun s5 s6 s13 S2 h2 => ?_
  refine rs3_ hl fun f a hL hf ha => ?_
  exact rs4_ hns h2 (by omega) hl hL hf ha hp kp fun s8 s9 S3 h3 => ws_nil (k _ _ _ _ _ _ _ _ _ _ _ _ _ _ (h3.up (by omega)))
theorem law_ (hns : ns.length ≤ 63) : W ((cal pg 40).fn 28 [.scr ns]) [] fun v S' => v = .bl true := by
  walk_at "fn"
  walk_at "pw"
  refine' w_imp (q_pen 38 hns) ?_
  rintro _ _ ⟨rfl, rfl⟩
  walk_at "pw"
  refine' wl_rng (fun t ρ S => Pn ns (200 * t) S ∧ ∃ s2 s3 s4 s5 s6 s7 s8 s9 s10 s11 s12 s13 s14 s15, ρ = [.val (.scr ns), .val (.loc 0), s2, s3, s4, s5, s6, s7, s8, s9, s10, s11, s12, s13, s14, s15]) ⟨Pn.of, _, _, _, _, _, _, _, _, _, _, _, _, _, _, rfl⟩ ?_ ?_
  · rintro t ρ S ht ⟨hS, s2, s3, s4, s5, s6, s7, s8, s9, s10, s11, s12, s13, s14, s15, rfl⟩
    have ht2 : t < 5 := by omega
    refine' ⟨_, ?ha, ?_⟩
    case ha => walk_at "asg"
    show WS pg _ (.cons _ (.cons _ (.cons _ rs1))) _ _ _
    walk_at "pw"
    refine' w_imp (pick 37 hns hS (by omega)) ?_
    rintro _ S1 ⟨⟨kn, rfl⟩, hS1⟩
    walk_at "pw"
    refine' w_imp (calen 35 hns hS1 (by omega)) ?_
    rintro _ S2 ⟨⟨bs, ls, rfl, h1, h2, h3⟩, hS2⟩
    have h0 : ls ≠ [] := List.length_pos_iff.mp (by omega)
    walk_at "pw"
    refine' w_imp (dr 38 hns hS2 (by omega) (by omega)) ?_
    rintro _ S3 ⟨d, rfl, hd, hS3⟩
    walk_at "pw"
    refine' br_q (fun hq => ?_) (fun hq => ?_)
    · walk_at "pw"
      refine' w_imp (dr 38 hns hS3 (by omega) (by omega)) ?_
      rintro _ S4 ⟨d', rfl, hd', hS4⟩
      walk_at "pw"
      have hr : (ls.drop 1 ++ ls.take 1).length = ls.length := by rw [List.length_append, List.length_drop, List.length_take]; omega
      have hm : ls.length * (1 + d').toNat ≤ 5 * 3 := Nat.mul_le_mul h3 (by omega)
      have e1 : (ls.map lv).drop 1 ++ (ls.map lv).take 1 = (ls.drop 1 ++ ls.take 1).map lv := by rw [List.map_append, List.map_drop, List.map_take]
      have e2 : bs.map lv ++ (ls.map lv).take 1 = (bs ++ ls.take 1).map lv := by rw [List.map_append, List.map_take]
      rw [e1, p_rep ⟨by omega, by rw [List.length_map, hr]; omega⟩]
      rw [e2, show (List.replicate (1 + d').toNat ((ls.drop 1 ++ ls.take 1).map lv)).flatten = ((List.replicate (1 + d').toNat (ls.drop 1 ++ ls.take 1)).flatten).map lv by rw [List.map_flatten, List.map_replicate]]
      refine' ⟨_, ?ha, ?_⟩
      case ha => walk_at "asg"
      refine' ws_nilT ?_
      have hl : ((List.replicate (1 + d').toNat (ls.drop 1 ++ ls.take 1)).flatten).length = (1 + d').toNat * ls.length := by rw [rep_len, hr]
      rw [Nat.mul_comm] at hm
      have hl0 : 0 < (1 + d').toNat * ls.length := Nat.mul_pos (by omega) (by omega)
      refine turn_ (p := ls.length) hns hS4 (by omega) ⟨List.length_pos_iff.mp (by rw [hl]; exact hl0), by rw [hl]; omega, by rw [List.length_append, List.length_take]; omega⟩ ⟨by omega, h3⟩ ?_ fun s2 s4 s5 s6 s7 s8 s9 s10 s11 s12 s13 s14 s15 S5 h5 => ⟨h5.up (by omega), _, _, _, _, _, _, _, _, _, _, _, _, _, _, rfl⟩
      intro i hi
      rw [sq_rep (by omega) (by omega), sq_rep (by omega) (by omega), sq_one (by omega), sq_one (by omega)]
      exact sq_per .e bs ls i (by omega)
    · walk_at "pw"
      exact turn_ hns hS3 (by omega) ⟨h0, by omega, by omega⟩ ⟨by omega, h3⟩ ((sq_per .e bs ls).up (by omega)) fun s2 s4 s5 s6 s7 s8 s9 s10 s11 s12 s13 s14 s15 S5 h5 => ⟨h5.up (by omega), _, _, _, _, _, _, _, _, _, _, _, _, _, _, rfl⟩
  · rintro ρ S ⟨hS, s2, s3, s4, s5, s6, s7, s8, s9, s10, s11, s12, s13, s14, s15, rfl⟩
    walk_at "pw"
    walk_at "fin"
end
theorem pure_all : ∀ ns : List Int, ns.length ≤ 63 → ∃ S', (calls prog.pg 40).fn 28 [.scr ns] [] = .ok (.bl true, S') := fun ns h => by
  obtain ⟨v, S', e, rfl⟩ := w_ex (law_ h)
  rw [cal_eq] at e
  exact ⟨S', by rw [epg]; exact e⟩
end K51

set_option Elab.async false
set_option linter.all false
set_option maxRecDepth 100000
set_option maxHeartbeats 0
open PySem PySem.W PySem.Calls PyProof.Rows
theorem PySem.Challenge.cw_lookingdays_k51_whole_days_of_calendars_holds : PySem.Challenge.rw_lookingdays_k51_whole_days_of_calendars.Holds := by
  w_on; o_law
  refine HandSHeadRun.head_any (r := K51.R) (q := view K51.R.prog [K51.lawI]) (H := K51.prog.hk) (ob := K51.ob) (M := 3000) (loose := K51.looseN) (d := HandSHeadRun.topDef K51.R.prog K51.lawI) (kwd := []) K51.ob_eq
    (by kernel_rfl) (fun s => by kernel_rfl) K51.run (by kernel_rfl) (by kernel_rfl) (by kernel_rfl) (by rfl) (by first | assumption | decide +kernel) (by decide +kernel) ⟨rfl, rfl, rfl, rfl, rfl, by decide +kernel⟩ ?hw ?hc
  case hw => w_witness2
  case hc =>
    refine PF.walk_end (l := PySem.Challenge.rw_lookingdays_k51_whole_days_of_calendars) (n := 63) (r := 80) (x := "script") rfl (by decide) (by kernel_rfl) ⟨rfl, by decide, by decide⟩ ?F
    intro w mg fa h Y G hmg0
    have e : (HandSHeadRun.topDef K51.R.prog K51.lawI).name = ("law" : PySem.Str) := by kernel_rfl
    rw [e] at hmg0
    exact PF.law_of (t := K51.prog) (m := 40) (li := 28) (dl := K51.t28) Y G hmg0 rfl rfl rfl (by decide +kernel) K51.good1 K51.good2 K51.shapes rfl (fun T kV doc pm an cdv ct us its ws h1 h2 h3 => match us, its, ws, h1, h2, h3 with | [_], [], [], _, _, _ => ⟨fun _ => rfl, fun z => absurd rfl z⟩) K51.pure_all
