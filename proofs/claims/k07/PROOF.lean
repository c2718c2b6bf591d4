import PyProof.Rows.All
import Wide.All
import OpenK.AllK
import Wide.FinOn
import HandS.Text
import PyProof.ReprRoads
import PyProof.ReprReads
import HandS.Comp
import HandS.Codes
import HandS.ForMost
import HandS.Exc
import HandS.Strs
import HandS.More
import HandS.Deep
import HandS.TupAny
import HandS.TupLe
import HandS.IsInst
import HandS.RaiseMore
import HandS.Conv
import HandS.Style
import HandS.NoneIn
import HandS.Zip
import KE.GoesMore
import HandS.StrMore
import HandS.Replace
import PyProof.StrLawsTight
import PyProof.Rows.StrCountLaw
import HandS.SetFor
import HandS.Property
import HandS.ClsMeth
import PyProof.InstNe
import PyProof.SliceStr2
import PyProof.Rows.StrRev
import HandS.Small
import HandS.HeadHook3
import HandS.Ends
import HandS.EndBits
import PySem.Challenge.RW_sparewires_k07_whole_library_by_own_tabl
set_option linter.all false
set_option Elab.async false
section
set_option linter.all false
namespace MP
open PySem

/-- plain values -/
inductive D where
  | non | bl (b : Bool) | int (i : Int) | str (s : List Nat)
  | tup (l : List D) | lst (l : List D) | dct (ks vs : List D)
  | ins (c : Nat) (l : List D)
  | mtb (n : Nat) | scr (l : List Int)
  /-- a class; an error: its class, what it keeps; a lambda: its number, what it captured -/
  | cls (c : Nat) | err (c : Nat) (l : List D) | lam (i : Nat) (l : List D)
  /-- a tuple that is unpacked at once -/
  | unp (l : List D)
  deriving Inhabited

inductive BOp | add | sub | mul | fdiv | mod | pow
  deriving DecidableEq
inductive COp | eq | ne | lt | le | gt | ge | isT | notT | inn | nin
  deriving DecidableEq
inductive Bi | len | tuple | list | all | any | int | str | repr | abs | min | max | minl | maxl | sum | sorted | dict | divmod | listzip | listrange | listrange2
  deriving DecidableEq
inductive Ty | int | bool | str | tuple | gate | box
  deriving DecidableEq
inductive Mt | count | join | index | split | upper | get
  deriving DecidableEq
inductive ItK | seq | range1 | range2 | zip | enum
  deriving DecidableEq
inductive Tn where
  | name (i : Nat) | tup (l : List Tn)

mutual
def Tn.ixs : Tn → List Nat
  | .name i => [i]
  | .tup l => Tn.ixss l
def Tn.ixss : List Tn → List Nat
  | [] => []
  | t :: r => t.ixs ++ Tn.ixss r
end
inductive C where
  | non | bl (b : Bool) | int (i : Int) | str (s : List Nat)
  | var (i : Nat) | bvar (i : Nat) | glob (x : Nat)
  | bin (o : BOp) (a b : C) | neg (a : C) | not (a : C) | and (a b : C) | or (a b : C)
  | cmp (o : COp) (a b : C) | chain (o o' : COp) (a b c : C)
  | ite (t a b : C)
  | tup (es : List C) | lst (es : List C) | dct (kvs : List C) | mkmut (es : List C)
  | idx (a i : C) | slc (a lo hi : C) | rev (a : C)
  | lc (e : C) (t : Tn) (k : ItK) (as : List C) (cond : List C) (own : List Nat)
  | lc2 (e : C) (t : Tn) (k : ItK) (as : List C) (cond : List C) (t1 : Tn) (k1 : ItK) (as1 : List C) (cond1 : List C) (own own1 : List Nat)
  | call (f : Nat) (es : List C) | callp (f : Nat) (es : List C) (perm : List Nat)
  | bi (f : Bi) (es : List C) | isi (a : C) (t : Ty)
  | mth (m : Mt) (r : C) (es : List C)
  | cls (c : Nat) | attr (f : PySem.Str) (a : C) | meth (m : PySem.Str) (a : C) (es : List C) (pm : List Nat) | mkc (c f : Nat) (a : C) | cache (g cl mode : Nat) (o k : C)

inductive MO where
  | lst (l : List D)

abbrev Mem := List MO
inductive R (α : Type) where
  | ok (a : α) (m : Mem) | exc (c : Nat) (p : Option D) (m : Mem) | bad
abbrev MM (α : Type) := Mem → R α
def MM.pure {α} (a : α) : MM α := fun m => .ok a m
def MM.bind {α β} (x : MM α) (f : α → MM β) : MM β := fun m =>
  match x m with
  | .ok a m' => f a m'
  | .exc c p m' => .exc c p m'
  | .bad => .bad
instance : Monad MM where
  pure := MM.pure
  bind := MM.bind
def bad {α} : MM α := fun _ => .bad
def orBad {α} : Option α → MM α
  | some a => fun m => .ok a m
  | none => fun _ => .bad
def guardB (b : Bool) : MM Unit := fun m => if b then .ok () m else .bad

def noExc {α} (x : MM α) : MM α := fun m => match x m with
  | .ok a m' => .ok a m'
  | _ => .bad
/-- an environment: a slot's value, whether it is a list (a dict) of the frame's own -/
abbrev Env := List (Option (D × Bool))

/-! ### operations on D -/
def szLine : Nat := 16777216
def shp : Nat → D → Bool
  | _, .non | _, .bl _ | _, .int _ | _, .str _ => true
  | n + 1, .tup l | n + 1, .lst l => l.all (shp n)
  | _, _ => false

mutual
def eqD : D → D → Bool
  | .non, .non => true
  | .bl a, .bl b => a == b
  | .bl a, .int j => (if a then 1 else 0) == j
  | .int i, .bl b => i == (if b then 1 else 0)
  | .int i, .int j => i == j
  | .str x, .str y => x == y
  | .lst xs, .lst ys => eqDs xs ys
  | .tup xs, .tup ys => eqDs xs ys
  | _, _ => false
def eqDs : List D → List D → Bool
  | [], [] => true
  | x :: xs, y :: ys => eqD x y && eqDs xs ys
  | _, _ => false
end
def eqO (x y : D) : Option Bool := if shp 16 x && shp 16 y then some (eqD x y) else none

def mulOk (i j : Int) : Bool := i.natAbs.log2 + j.natAbs.log2 < 4000000
def binO (o : BOp) (x y : D) : Option D :=
  match o, x, y with
  | .add, .int i, .int j => some (.int (i + j))
  | .add, .str s, .str t => if s.length + t.length ≤ szLine then some (.str (s ++ t)) else none
  | .add, .lst s, .lst t => if s.length + t.length ≤ szLine then some (.lst (s ++ t)) else none
  | .add, .tup s, .tup t => if s.length + t.length ≤ szLine then some (.tup (s ++ t)) else none
  | .sub, .int i, .int j => some (.int (i - j))
  | .mul, .int i, .int j => if mulOk i j then some (.int (i * j)) else none
  | .mul, .lst s, .int k => if 0 ≤ k && k < 1000000 && s.length * k.toNat ≤ szLine then some (.lst (List.replicate k.toNat s).flatten) else none
  | .mul, .str s, .int k => if 0 ≤ k && k < 1000000 && s.length * k.toNat ≤ szLine then some (.str (List.replicate k.toNat s).flatten) else none
  | .fdiv, .int i, .int j => if 0 < j && j < 1073741824 then some (.int (i / j)) else none
  | .mod, .int i, .int j => if 0 < j then some (.int (i % j)) else none
  | .pow, .int i, .int j => if 0 ≤ j && j ≤ 1000 && i.natAbs < 1000 then some (.int (i ^ j.toNat)) else none
  | _, _, _ => none
def isKey : D → Bool
  | .int _ | .str _ => true
  | _ => false
/-- texts are looked up anywhere, ints among ints -/
def keyFit (ks : List D) : D → Bool
  | .str _ => true
  | .int _ => ks.all fun k => match k with | .int _ => true | _ => false
  | _ => false
def inO (x y : D) : Option Bool :=
  match y with
  | .lst l | .tup l => if shp 15 x && l.all (shp 15) then some (l.any fun z => eqD z x) else none
  | .dct ks _ => if keyFit ks x then some (ks.any fun z => eqD z x) else none
  | .str t => match x with
    | .str [c] => some (t.contains c)
    | _ => none
  | _ => none
def cmpO (o : COp) (x y : D) : Option Bool :=
  match o with
  | .eq => eqO x y
  | .ne => (eqO x y).map (!·)
  | .inn => inO x y
  | .nin => (inO x y).map (!·)
  | .isT => match y with
    | .non => some (match x with | .non => true | _ => false)
    | .bl b => match x with | .bl c => some (b == c) | _ => none
    | _ => none
  | .notT => match y with
    | .non => some (match x with | .non => false | _ => true)
    | .bl b => match x with | .bl c => some (!(b == c)) | _ => none
    | _ => none
  | o => match x, y with
    | .int i, .int j => match o with
      | .lt => some (decide (i < j))
      | .le => some (decide (i ≤ j))
      | .gt => some (decide (j < i))
      | .ge => some (decide (j ≤ i))
      | _ => none
    | _, _ => none
def ixN (n : Nat) (i : Int) : Option Nat :=
  if 0 ≤ i then (if i.toNat < n then some i.toNat else none)
  else if 0 ≤ i + (n : Int) then some (i + (n : Int)).toNat else none
def findKey (k : D) : List D → List D → Option D
  | a :: ks, v :: vs => if eqD a k then some v else findKey k ks vs
  | _, _ => none
def idxO (x i : D) : Option D :=
  match x, i with
  | .lst l, .int k | .tup l, .int k => (ixN l.length k).bind fun j => l[j]?
  | .str s, .int k => (ixN s.length k).bind fun j => s[j]?.map fun c => .str [c]
  | .scr l, .int k => (ixN l.length k).bind fun j => l[j]?.map .int
  | .dct ks vs, k => if keyFit ks k then findKey k ks vs else none
  | _, _ => none
def sIx (n d : Nat) : D → Option Nat
  | .non => some d
  | .int v => some (if v < 0 then (v + (n : Int)).toNat else min v.toNat n)
  | _ => none
def cut {α : Type} (l : List α) (lo hi : D) : Option (List α) :=
  (sIx l.length 0 lo).bind fun a => (sIx l.length l.length hi).map fun b => (l.drop a).take (b - a)
def slcO (x lo hi : D) : Option D :=
  match x with
  | .lst l => (cut l lo hi).map .lst
  | .tup l => (cut l lo hi).map .tup
  | .str s => (cut s lo hi).map .str
  | .scr l => (cut l lo hi).map fun ns => .lst (ns.map .int)
  | _ => none
def revO : D → Option D
  | .lst l => some (.lst l.reverse)
  | .str s => some (.str s.reverse)
  | _ => none
def toBool : D → Option Bool
  | .bl b => some b
  | _ => none

def countS (s : List Nat) (c : Nat) : Nat := s.countP (· == c)
def mapO {α β} (f : α → Option β) : List α → Option (List β)
  | [] => some []
  | a :: r => match f a, mapO f r with
    | some b, some bs => some (b :: bs)
    | _, _ => none
def unStr : D → Option (List Nat)
  | .str s => some s
  | _ => none
def unInt : D → Option Int
  | .int s => some s
  | _ => none
def unBl : D → Option Bool
  | .bl s => some s
  | _ => none
def joinL (sep : List Nat) : List (List Nat) → List Nat
  | [] => []
  | [x] => x
  | x :: r => x ++ sep ++ joinL sep r
def splitL (sep : Nat) : List Nat → List (List Nat)
  | [] => [[]]
  | c :: r => if c == sep then [] :: splitL sep r else
    match splitL sep r with
    | w :: ws => (c :: w) :: ws
    | [] => [[c]]
def findIx (x : D) : List D → Nat → Option Nat
  | [], _ => none
  | a :: r, n => if eqD a x then some n else findIx x r (n + 1)
def seqOf : D → Option (List D)
  | .lst l | .tup l => some l
  | .str s => some (s.map fun c => .str [c])
  | _ => none
def mCount : D → List D → Option D
  | .str s, [.str [c]] => some (.int (countS s c))
  | .lst l, [y] => if shp 15 y && l.all (shp 15) then some (.int (l.countP fun z => eqD z y)) else none
  | _, _ => none
def mJoin : D → List D → Option D
  | .str s, [.lst l] => (mapO unStr l).bind fun ws => if (ws.map (·.length)).sum + ws.length * s.length ≤ szLine then some (.str (joinL s ws)) else none
  | .str s, [.tup l] => (mapO unStr l).bind fun ws => if (ws.map (·.length)).sum + ws.length * s.length ≤ szLine then some (.str (joinL s ws)) else none
  | _, _ => none
def mIndex : D → List D → Option D
  | .lst l, [y] => if shp 15 y && l.all (shp 15) then (findIx y l 0).map fun (n : Nat) => D.int (n : Int) else none
  | .tup l, [y] => if shp 15 y && l.all (shp 15) then (findIx y l 0).map fun (n : Nat) => D.int (n : Int) else none
  | .str s, [.str [c]] => if s.contains c then some (.int (s.idxOf c)) else none
  | _, _ => none
def mSplit : D → List D → Option D
  | .str s, [.str [c]] => if s.length + 2 ≤ szLine then some (.lst ((splitL c s).map .str)) else none
  | _, _ => none
def mthO (m : Mt) (x : D) (as : List D) : Option D :=
  match m with
  | .count => mCount x as
  | .join => mJoin x as
  | .index => mIndex x as
  | .split => mSplit x as
  | _ => none
/-- the receivers -/
def rcv : Mt → D → Bool
  | .count, .str _ | .count, .lst _ | .index, .lst _ | .index, .tup _ | .index, .str _ | .join, .str _ | .split, .str _ => true
  | _, _ => false
def rangeL (a b : Int) : List D := (List.range (b - a).toNat).map fun (k : Nat) => D.int (a + (k : Int))
def zipD : List D → List D → List D
  | a :: r, b :: s => .unp [a, b] :: zipD r s
  | _, _ => []
def enumD : Nat → List D → List D
  | _, [] => []
  | n, a :: r => .unp [.int n, a] :: enumD (n + 1) r
def smallI (i : Int) : Bool := decide (-(2 ^ 62) ≤ i) && decide (i < 2 ^ 62)
def itO (k : ItK) (as : List D) : Option (List D) :=
  match k, as with
  | .seq, [x] => seqOf x
  | .range1, [.int n] => if smallI n then some (rangeL 0 n) else none
  | .range2, [.int a, .int b] => if smallI a && smallI b then some (rangeL a b) else none
  | .zip, [.lst a, .lst b] | .zip, [.tup a, .tup b] => some (zipD a b)
  | .enum, [.lst a] | .enum, [.tup a] => some (enumD 0 a)
  | _, _ => none
def pairOf : D → Option (D × D)
  | .tup [a, b] => some (a, b)
  | _ => none
def putKey (k v : D) : List D → List D → List D × List D
  | a :: ks, w :: vs => if eqD a k then (a :: ks, v :: vs) else
    let r := putKey k v ks vs
    (a :: r.1, w :: r.2)
  | _, _ => ([k], [v])
def putAll : List (D × D) → List D × List D → List D × List D
  | [], p => p
  | (k, v) :: r, p => putAll r (putKey k v p.1 p.2)
def lexLt : List Nat → List Nat → Bool
  | [], [] => false
  | [], _ :: _ => true
  | _ :: _, [] => false
  | a :: r, b :: s => if a < b then true else if b < a then false else lexLt r s
def insS (x : List Nat) : List (List Nat) → List (List Nat)
  | [] => [x]
  | y :: r => if lexLt y x then y :: insS x r else x :: y :: r
def sortS : List (List Nat) → List (List Nat)
  | [] => []
  | x :: r => insS x (sortS r)
def intText (i : Int) : List Nat := (PySem.Str.ofString (toString i)).cps.toList
def okTxt (s : List Nat) : Bool := decide (s.length ≤ szLine) && s.all fun c => decide (c < 1114112)
def biO (reprD : D → Option (List Nat)) (f : Bi) (as : List D) : Option D :=
  match f, as with
  | .len, [.lst l] | .len, [.tup l] => some (.int l.length)
  | .len, [.str s] => some (.int s.length)
  | .len, [.scr l] => some (.int l.length)
  | .tuple, [.lst l] | .tuple, [.tup l] => some (.tup l)
  | .list, [.lst l] | .list, [.tup l] => some (.lst l)
  | .all, [.lst l] => (mapO unBl l).map fun bs => .bl (bs.all id)
  | .any, [.lst l] => (mapO unBl l).map fun bs => .bl (bs.any id)
  | .int, [.int i] => some (.int i)
  | .int, [.bl b] => some (.int (if b then 1 else 0))
  | .int, [.str [c]] => if 48 ≤ c && c ≤ 57 then some (.int (((c - 48 : Nat)) : Int)) else none
  | .str, [.int i] => if decide (i.natAbs.log2 < 1920) && okTxt (intText i) then some (.str (intText i)) else none
  | .str, [.str s] => some (.str s)
  | .repr, [d] => (reprD d).bind fun s => if okTxt s then some (.str s) else none
  | .abs, [.int i] => some (.int (if i < 0 then -i else i))
  | .min, [.int i, .int j] => some (.int (if j < i then j else i))
  | .max, [.int i, .int j] => some (.int (if j > i then j else i))
  | .minl, [.lst l] => (mapO unInt l).bind fun ns => match ns with
    | [] => none
    | a :: r => some (.int (r.foldl min a))
  | .maxl, [.lst l] => (mapO unInt l).bind fun ns => match ns with
    | [] => none
    | a :: r => some (.int (r.foldl max a))
  | .sum, [.lst l] => (mapO unInt l).map fun ns => .int ns.sum
  | .sorted, [.lst l] => if l.length < 64 then (mapO unStr l).map fun ws => .lst ((sortS ws).map .str) else none
  | .dict, [.lst l] => (mapO pairOf l).bind fun ps => if (ps.map (·.1)).all isKey then let r := putAll ps ([], []); some (.dct r.1 r.2) else none
  | .divmod, [.int i, .int j] => if 0 < j && j < 1073741824 then some (.tup [.int (i / j), .int (i % j)]) else none
  | .listzip, [x, y] => (itO .zip [x, y]).map .lst
  | .listrange, [x] => (itO .range1 [x]).bind fun l => if l.length ≤ 1000 then some (.lst l) else none
  | .listrange2, [x, y] => (itO .range2 [x, y]).bind fun l => if l.length ≤ 1000 then some (.lst l) else none
  | _, _ => none
def isO (x : D) (t : Ty) : Option Bool := match x with
  | .ins c _ => (match t with
    | .gate => some (c == 0)
    | .box => some (c == 1)
    | _ => some false)
  | .cls _ | .err _ _ | .lam _ _ | .unp _ => none
  | x => match t with
    | .int => some (match x with | .int _ | .bl _ => true | _ => false)
    | .bool => some (match x with | .bl _ => true | _ => false)
    | .str => some (match x with | .str _ => true | _ => false)
    | .tuple => some (match x with | .tup _ => true | _ => false)
    | .gate => some false
    | .box => some false
/-- is the value a fresh list (or dict)? -/
def freshBin : BOp → D → Bool
  | .add, .lst _ | .mul, .lst _ => true
  | _, _ => false
def freshBi : Bi → Bool
  | .list | .sorted | .dict | .listzip | .listrange | .listrange2 => true
  | _ => false
mutual
def bindT (own : Bool) : Tn → D → Env → Option Env
  | .name i, d, e => some (e.set i (some (d, false)))
  | .tup l, .tup ds, e | .tup l, .lst ds, e | .tup l, .unp ds, e => bindTs l ds e
  | _, _, _ => none
def bindTs : List Tn → List D → Env → Option Env
  | [], [], e => some e
  | t :: ts, d :: ds, e => (bindT false t d e).bind fun e' => bindTs ts ds e'
  | _, _, _ => none
end
def wipeE (e : Env) : List Nat → Env
  | [] => e
  | v :: vs => (wipeE e vs).set v none

/-! ### classes -/
/-- the classes: their names, their fields as they are stored, whether a cache is the last one -/
def clsTab : List (PySem.Str × List PySem.Str × Bool) := [("Gate", ["rows"], true), ("Box", ["lot"], true)]
/-- the names of all classes that are values -/
def clsNm : List PySem.Str := clsTab.map (·.1)
/-- their methods and properties -/
def memTab : List (List PySem.Str) := [["__init__", "read", "table", "wires", "__bool__", "__eq__", "__str__", "of", "then", "back", "order", "on"],
  ["__init__", "read", "gates", "__len__", "__bool__", "__contains__", "__eq__", "__str__", "more", "without", "kept", "kind"]]
def fieldIx (c : Nat) (f : PySem.Str) : Option Nat := (clsTab[c]?).bind fun p => p.2.1.findIdx? (· == f)
/-- the number of a method's def -/
def methNo (c : Nat) (m : PySem.Str) : Option Nat := (memTab[c]?).bind fun l => (l.findIdx? (· == m)).map fun i => 1000 + 50 * c + i
/-- properties, methods' parameters (without the instance), what objects are made of -/
def propT : List PySem.Str := ["table", "wires", "gates"]
def msigT : List (PySem.Str × List PySem.Str) := [("read", ["text"]), ("of", ["row"]), ("then", ["gate"]), ("back", []), ("order", []), ("on", ["wires", "places"]), ("more", ["gate"]), ("without", ["index"]), ("kept", []), ("kind", []),
  ("__bool__", []), ("__eq__", ["other"]), ("__str__", []), ("__len__", []), ("__contains__", ["value"])]
def initP : List PySem.Str := ["table", "gates"]
/-- the fields' names -/
def fieldT : List PySem.Str := clsTab.flatMap fun p => p.2.1
/-- the keys that caches have -/
def cacheKeys : List (List Nat) := (["by 3", "by 4", "by 5", "by 6", "count", "differences", "distances", "even", "fours", "products", "sums", "turning", "things", "both", "choose", "even4", "lead", "leads", "odd4", "odd6", "ring3", "ring4", "ring5", "ring6", "swap", "turn", "turns"] : List String).map fun s => s.toList.map Char.toNat
def thingsKey : List Nat := ("things" : String).toList.map Char.toNat
def modeOk (mode : Nat) (s : List Nat) : Bool := match mode with
  | 0 => true
  | 1 => s == thingsKey
  | _ => !(s == thingsKey)
mutual
/-- no list in it that others change -/
def noMt : D → Bool
  | .mtb _ | .lam _ _ => false
  | .tup l | .lst l | .unp l | .ins _ l | .err _ l => noMts l
  | .dct _ vs => noMts vs
  | _ => true
def noMts : List D → Bool
  | [] => true
  | d :: ds => noMt d && noMts ds
end
/-- what the evaluator is given: the defs' answers, the constants, repr -/
structure Ctx where
  F : Nat → List D → MM (D × Bool)
  G : Nat → Option D
  rp : D → Option (List Nat)

def loopL {α : Type} (step : D → α → MM α) : List D → α → MM α
  | [], a => fun m => .ok a m
  | d :: r, a => MM.bind (step d a) fun a' => loopL step r a'

/-- what is looked for once -/
def cacheM (F : Nat → List D → MM (D × Bool)) (g cl mode : Nat) (x z : D) : MM (D × Bool) := match x, z with
  | .ins c l, .str s => if c == cl && (cacheKeys.contains s && (modeOk mode s && noMts l)) then fun m => (match F g (if mode == 1 then [.ins c l] else [.ins c l, .str s]) [] with
      | .ok (d, false) [] => if noMt d then .ok (d, false) m else .bad
      | _ => .bad) else bad
  | _, _ => bad
/-- a slice's part: left out (None), or an int -/
def partOk : C → D → Bool
  | .non, .non => true
  | .non, _ => false
  | _, .int _ => true
  | _, _ => false
def pairsD : List D → Option (List (D × D))
  | [] => some []
  | k :: v :: r => (pairsD r).map fun ps => (k, v) :: ps
  | _ => none
/-- == and != of two instances of one class: the number of their own __eq__, whether its answer is turned -/
def cmpN (o : COp) : D → D → Option (Nat × Bool)
  | .ins c _, .ins c' _ => if c == c' then (match o with
    | .eq => (methNo c "__eq__").map fun n => (n, false)
    | .ne => (methNo c "__eq__").map fun n => (n, true)
    | _ => none) else none
  | _, _ => none
def cmpM (F : Nat → List D → MM (D × Bool)) (o : COp) (x y : D) : MM (D × Bool) := match cmpN o x y with
  | some (n, neg) => MM.bind (noExc (F n [x, y])) fun r => match r.1 with
    | .bl b => MM.pure (.bl (neg != b), false)
    | _ => bad
  | none => orBad ((cmpO o x y).map fun c => (.bl c, false))
mutual
def den (X : Ctx) : C → Env → MM (D × Bool)
  | .non, _ => MM.pure (.non, false)
  | .bl b, _ => MM.pure (.bl b, false)
  | .int i, _ => MM.pure (.int i, false)
  | .str s, _ => MM.pure (.str s, false)
  | .var i, e => match e[i]? with
    | some (some (d, false)) => MM.pure (d, false)
    | _ => bad
  | .bvar i, e => match e[i]? with
    | some (some (d, _)) => MM.pure (d, false)
    | _ => bad
  | .glob x, _ => orBad ((X.G x).map fun d => (d, false))
  | .bin o a b, e => MM.bind (den X a e) fun x => MM.bind (den X b e) fun y => orBad ((binO o x.1 y.1).map fun d => (d, freshBin o d))
  | .neg a, e => MM.bind (den X a e) fun x => match x.1 with
    | .int i => MM.pure (.int (-i), false)
    | _ => bad
  | .not a, e => MM.bind (den X a e) fun x => match x.1 with
    | .bl b => MM.pure (.bl (!b), false)
    | _ => bad
  | .and a b, e => MM.bind (den X a e) fun x => match x.1 with
    | .bl true => MM.bind (den X b e) fun y => match y.1 with
      | .bl c => MM.pure (.bl c, false)
      | _ => bad
    | .bl false => MM.pure (.bl false, false)
    | _ => bad
  | .or a b, e => MM.bind (den X a e) fun x => match x.1 with
    | .bl false => MM.bind (den X b e) fun y => match y.1 with
      | .bl c => MM.pure (.bl c, false)
      | _ => bad
    | .bl true => MM.pure (.bl true, false)
    | _ => bad
  | .cmp o a b, e => MM.bind (den X a e) fun x => MM.bind (den X b e) fun y => cmpM X.F o x.1 y.1
  | .chain o o' a b c, e => MM.bind (den X a e) fun x => MM.bind (den X b e) fun y => match cmpO o x.1 y.1 with
    | some true => MM.bind (den X c e) fun z => orBad ((cmpO o' y.1 z.1).map fun c => (.bl c, false))
    | some false => MM.pure (.bl false, false)
    | none => bad
  | .ite t a b, e => MM.bind (den X t e) fun x => match x.1 with
    | .bl true => den X a e
    | .bl false => den X b e
    | _ => bad
  | .tup es, e => MM.bind (denL X es e) fun ds => MM.pure (.tup ds, false)
  | .lst es, e => MM.bind (denL X es e) fun ds => MM.pure (.lst ds, true)
  | .dct kvs, e => MM.bind (denL X kvs e) fun ds => match pairsD ds with
    | some ps => if ps.length ≤ 15 && (ps.map (·.1)).all isKey then MM.pure (let r := putAll ps ([], []); .dct r.1 r.2, true) else bad
    | none => bad
  | .mkmut es, e => MM.bind (denL X es e) fun ds => fun m => .ok (.mtb m.length, false) (m ++ [.lst ds])
  | .idx a i, e => MM.bind (den X a e) fun x => MM.bind (den X i e) fun y => match x.1 with
    | .mtb n => fun m => match m[n]? with
      | some (.lst l) => orBad ((idxO (.lst l) y.1).map fun d => (d, false)) m
      | _ => .bad
    | _ => orBad ((idxO x.1 y.1).map fun d => (d, false))
  | .slc a lo hi, e => MM.bind (den X a e) fun x => MM.bind (den X lo e) fun y => if partOk lo y.1 then MM.bind (den X hi e) fun z =>
      if partOk hi z.1 then orBad ((slcO x.1 y.1 z.1).map fun d => (d, match d with | .lst _ => true | _ => false)) else bad else bad
  | .rev a, e => MM.bind (den X a e) fun x => orBad ((revO x.1).map fun d => (d, match d with | .lst _ => true | _ => false))
  | .lc el t k as cond own, e => MM.bind (denL X as e) fun ds => match itO k ds with
    | none => bad
    | some items => MM.bind (noExc (loopL (fun d acc => match bindT false t d (wipeE e own) with
        | none => bad
        | some e' => MM.bind (denT X cond e') fun b => if b then MM.bind (den X el e') fun y => if acc.length < szLine then MM.pure (acc ++ [y.1]) else bad else MM.pure acc) items []))
      fun acc => MM.pure (.lst acc, true)
  | .lc2 el t k as cond t1 k1 as1 cond1 own own1, e => MM.bind (denL X as e) fun ds => match itO k ds with
    | none => bad
    | some items => MM.bind (noExc (loopL (fun d acc => match bindT false t d (wipeE e own) with
        | none => bad
        | some e1 => MM.bind (denT X cond e1) fun b => if b then MM.bind (denL X as1 e1) fun ds1 => match itO k1 ds1 with
            | none => bad
            | some items1 => loopL (fun d1 acc => match bindT false t1 d1 (wipeE e1 own1) with
              | none => bad
              | some e2 => MM.bind (denT X cond1 e2) fun b1 => if b1 then MM.bind (den X el e2) fun y => if acc.length < szLine then MM.pure (acc ++ [y.1]) else bad else MM.pure acc) items1 acc
          else MM.pure acc) items []))
      fun acc => MM.pure (.lst acc, true)
  | .call f es, e => MM.bind (denL X es e) fun ds => X.F f ds
  | .callp f es perm, e => MM.bind (denL X es e) fun ds => match mapO (fun i => ds[i]?) perm with
    | some ds' => X.F f ds'
    | none => bad
  | .bi f es, e => MM.bind (denL X es e) fun ds => orBad ((biO X.rp f ds).map fun d => (d, freshBi f))
  | .isi a t, e => MM.bind (den X a e) fun x => orBad ((isO x.1 t).map fun b => (.bl b, false))
  | .mth mt r es, e => MM.bind (den X r e) fun x => if rcv mt x.1 then MM.bind (denL X es e) fun ds => orBad ((mthO mt x.1 ds).map fun d => (d, match d with | .lst _ => true | _ => false)) else bad
  | .attr f a, e => MM.bind (den X a e) fun x => match x.1 with
    | .ins c ds => (match fieldIx c f with
      | some i => orBad (ds[i]?.map fun d => (d, false))
      | none => (match methNo c f with
        | some n => noExc (X.F n [x.1])
        | none => bad))
    | _ => bad
  | .meth m a es pm, e => MM.bind (den X a e) fun x => match x.1 with
    | .ins c _ => (match methNo c m with
      | some n => MM.bind (denL X es e) fun vs => match mapO (fun i => vs[i]?) pm with
        | some vs' => X.F n (x.1 :: vs')
        | none => bad
      | none => bad)
    | _ => bad
  | .cls c, _ => MM.pure (.cls c, false)
  | .mkc c f a, e => MM.bind (den X a e) fun x => MM.bind (X.F f [x.1]) fun _ => MM.pure (.ins c [x.1], false)
  | .cache g cl mode o k, e => MM.bind (den X o e) fun x => MM.bind (den X k e) fun z => cacheM X.F g cl mode x.1 z.1
def denL (X : Ctx) : List C → Env → MM (List D)
  | [], _ => MM.pure []
  | c :: cs, e => MM.bind (den X c e) fun x => MM.bind (denL X cs e) fun xs => MM.pure (x.1 :: xs)
/-- all of some tests -/
def denT (X : Ctx) : List C → Env → MM Bool
  | [], _ => MM.pure true
  | c :: cs, e => MM.bind (den X c e) fun x => match x.1 with
    | .bl true => denT X cs e
    | .bl false => MM.pure false
    | _ => bad
end

inductive Tg where
  | name (i : Nat) | sub (i : Nat) (k : C) | msub (a k : C) | tup (l : List Tg)
inductive S where
  | set (i : Nat) (keep : Bool) (e : C) | share (i : Nat) | move (i j : Nat) | asg (t : Tg) (e : C) | par (l : List (Nat × Bool)) (es : List C)
  | append (i : Nat) (e : C) | insert (i : Nat) (k e : C) | extend (i : Nat) (e : C) | appPop (i j : Nat) (k : C) | setPop (i j : Nat) (k : C)
  | aug (i : Nat) (o : BOp) (e : C) | augSub (i : Nat) (k : C) (o : BOp) (e : C)
  | for_ (t : Tn) (k : ItK) (as : List C) (b : List S)
  | while_ (c : C) (b : List S)
  | ite (c : C) (a b : List S)
  | ret (e : C) | retO (i : Nat) | retN | expr (e : C) | pass
  | raise (c : Nat) (es : List C)
inductive Fl where
  | nx (e : Env) | rt (d : D) (own : Bool)

def ownAt (e : Env) (i : Nat) : Option D := match e[i]? with
  | some (some (d, true)) => some d
  | _ => none
def augI (o : BOp) (a b : Int) : Option Int := match o with
  | .add => some (a + b)
  | .sub => some (a - b)
  | .mul => if mulOk a b then some (a * b) else none
  | _ => none
/-- a store into an own list (dict) -/
def putO (x k v : D) : Option D :=
  match x, k with
  | .lst l, .int i => (ixN l.length i).map fun j => .lst (l.set j v)
  | .dct ks vs, k => if isKey k && decide (ks.length < 1000000) then let r := putKey k v ks vs; some (.dct r.1 r.2) else none
  | _, _ => none
def mput (n : Nat) (k d : D) (e : Env) : MM Env := fun m => match m[n]? with
  | some (.lst l) => match putO (.lst l) k d with
    | some (.lst l') => .ok e (m.set n (.lst l'))
    | _ => .bad
  | _ => .bad
mutual
def asgG (X : Ctx) : Tg → D → Env → MM Env
  | .name i, d, e => MM.pure (e.set i (some (d, false)))
  | .sub i k, d, e => match ownAt e i with
    | some x => MM.bind (den X k e) fun y => match putO x y.1 d with
      | some x' => MM.pure (e.set i (some (x', true)))
      | none => bad
    | none => bad
  | .msub a k, d, e => MM.bind (den X a e) fun x => match x.1 with
    | .mtb n => MM.bind (den X k e) fun y => mput n y.1 d e
    | _ => bad
  | .tup l, d, e => match d with
    | .tup ds | .lst ds => if l.length = ds.length then asgGs X l ds e else bad
    | _ => bad
def asgGs (X : Ctx) : List Tg → List D → Env → MM Env
  | [], [], e => MM.pure e
  | t :: ts, d :: ds, e => MM.bind (asgG X t d e) fun e' => asgGs X ts ds e'
  | _, _, _ => bad
end
/-- all values ahead, with their flags -/
def denO (X : Ctx) : List C → Env → MM (List (D × Bool))
  | [], _ => MM.pure []
  | c :: cs, e => MM.bind (den X c e) fun x => MM.bind (denO X cs e) fun xs => MM.pure (x :: xs)
def setAll : List (Nat × Bool) → List (D × Bool) → Env → Env
  | (i, keep) :: r, (d, own) :: s, e => (setAll r s e).set i (some (d, keep && own))
  | _, _, e => e
def popL (x : D) (k : D) : Option (D × D) := match x, k with
  | .lst l, .int i => (ixN l.length i).bind fun j => l[j]?.map fun y => (y, .lst (l.eraseIdx j))
  | _, _ => none
def forL (step : D → Env → MM Fl) : List D → Env → MM Fl
  | [], e => MM.pure (.nx e)
  | d :: r, e => MM.bind (step d e) fun f => match f with
    | .nx e' => forL step r e'
    | .rt d o => MM.pure (.rt d o)
def whileL (test : Env → MM (D × Bool)) (body : Env → MM Fl) : Nat → Env → MM Fl
  | 0, _ => bad
  | n + 1, e => MM.bind (test e) fun x => match x.1 with
    | .bl true => MM.bind (body e) fun f => match f with
      | .nx e' => whileL test body n e'
      | .rt d o => MM.pure (.rt d o)
    | .bl false => MM.pure (.nx e)
    | _ => bad
mutual
def denS (X : Ctx) : S → Env → MM Fl
  | .set i keep c, e => MM.bind (den X c e) fun x => MM.pure (.nx (e.set i (some (x.1, keep && x.2))))
  | .share i, e => MM.pure (.nx (match e[i]? with
    | some (some (d, true)) => e.set i (some (d, false))
    | _ => e))
  | .move i j, e => match e[j]? with
    | some (some (d, own)) => if own then (if i != j then MM.pure (.nx ((e.set j none).set i (some (d, true)))) else bad) else MM.pure (.nx (e.set i (some (d, false))))
    | _ => bad
  | .asg t c, e => MM.bind (den X c e) fun x => MM.bind (asgG X t x.1 e) fun e' => MM.pure (.nx e')
  | .par l cs, e => MM.bind (denO X cs e) fun xs => if xs.length = l.length then MM.pure (.nx (setAll l xs e)) else bad
  | .append i c, e => match ownAt e i with
    | some (.lst l) => MM.bind (den X c e) fun x => if l.length < szLine then MM.pure (.nx (e.set i (some (.lst (l ++ [x.1]), true)))) else bad
    | _ => bad
  | .insert i k c, e => match ownAt e i with
    | some (.lst l) => MM.bind (den X k e) fun y => MM.bind (den X c e) fun x => match y.1 with
      | .int j => if 0 ≤ j && j ≤ l.length && l.length < szLine then MM.pure (.nx (e.set i (some (.lst (l.take j.toNat ++ [x.1] ++ l.drop j.toNat), true)))) else bad
      | _ => bad
    | _ => bad
  | .extend i c, e => match ownAt e i with
    | some (.lst l) => MM.bind (den X c e) fun x => match x.1 with
      | .lst r => if l.length + r.length ≤ szLine then MM.pure (.nx (e.set i (some (.lst (l ++ r), true)))) else bad
      | _ => bad
    | _ => bad
  | .appPop i j k, e => match ownAt e i, ownAt e j with
    | some (.lst l), some (.lst r) => if l.length < szLine && i != j then MM.bind (den X k e) fun y => match popL (.lst r) y.1 with
      | some (d, r') => MM.pure (.nx ((e.set j (some (r', true))).set i (some (.lst (l ++ [d]), true))))
      | none => bad
      else bad
    | _, _ => bad
  | .setPop i j k, e => match ownAt e j with
    | some (.lst r) => if i != j then MM.bind (den X k e) fun y => match popL (.lst r) y.1 with
      | some (d, r') => MM.pure (.nx ((e.set j (some (r', true))).set i (some (d, false))))
      | none => bad
      else bad
    | _ => bad
  | .aug i o c, e => match e[i]? with
    | some (some (.int a, _)) => MM.bind (den X c e) fun x => match x.1 with
      | .int b => (match augI o a b with
        | some z => MM.pure (.nx (e.set i (some (.int z, false))))
        | none => bad)
      | _ => bad
    | _ => bad
  | .augSub i k o c, e => match ownAt e i with
    | some (.lst l) => MM.bind (den X k e) fun y => match y.1, idxO (.lst l) y.1 with
      | .int j, some (.int w) => MM.bind (den X c e) fun z => match z.1 with
        | .int v => match putO (.lst l) (.int j) (.int (w + v)) with
          | some x' => if o == .add then MM.pure (.nx (e.set i (some (x', true)))) else bad
          | none => bad
        | _ => bad
      | _, _ => bad
    | _ => bad
  | .for_ t k as b, e => MM.bind (denL X as e) fun ds => match itO k ds with
    | none => bad
    | some items => forL (fun d e => match bindT false t d e with
      | some e' => denSs X b e'
      | none => bad) items e
  | .while_ c b, e => whileL (fun e => den X c e) (fun e => denSs X b e) 1000000 e
  | .ite c a b, e => MM.bind (den X c e) fun x => match x.1 with
    | .bl true => denSs X a e
    | .bl false => denSs X b e
    | _ => bad
  | .ret c, e => MM.bind (den X c e) fun x => MM.pure (.rt x.1 x.2)
  | .retO i, e => match e[i]? with
    | some (some (d, own)) => MM.pure (.rt d own)
    | _ => bad
  | .retN, _ => MM.pure (.rt .non false)
  | .expr c, e => MM.bind (den X c e) fun _ => MM.pure (.nx e)
  | .pass, e => MM.pure (.nx e)
  | .raise c es, e => bad
def denSs (X : Ctx) : List S → Env → MM Fl
  | [], e => MM.pure (.nx e)
  | s :: ss, e => MM.bind (denS X s e) fun f => match f with
    | .nx e' => denSs X ss e'
    | .rt d o => MM.pure (.rt d o)
end
/-- a def: how many slots, how many of them are parameters, its body, how many parameters ahead of them are not told -/
structure Fn where
  n : Nat
  p : Nat
  body : List S
  q : Nat
def fnRun (X : Ctx) (f : Fn) (ds : List D) : MM (D × Bool) :=
  if ds.length = f.p then
    MM.bind (denSs X f.body (List.replicate f.q none ++ (ds.map (fun d => some (d, false)) ++ List.replicate (f.n - f.p - f.q) none))) fun r => match r with
      | .nx _ => MM.pure (.non, false)
      | .rt d own => MM.pure (d, own)
  else bad
/-- the program: its defs by name, its constants -/
structure Pg where
  fns : List (Nat × Fn)
  consts : List (Nat × D)
  rp : D → Option (List Nat)
/-- a def's answer, calls at most k deep -/
def run (P : Pg) : Nat → Nat → List D → MM (D × Bool)
  | 0, _, _ => bad
  | k + 1, f, ds => match P.fns.lookup f with
    | some fn => fnRun ⟨run P k, fun x => P.consts.lookup x, P.rp⟩ fn ds
    | none => bad
theorem noExc_ok {α : Type} {x : MM α} {M M' : Mem} {a : α} (h : noExc x M = .ok a M') : x M = .ok a M' := by
  unfold noExc at h
  cases q : x M with
  | ok b M1 => rw [q] at h; exact h
  | exc c p M1 => rw [q] at h; cases h
  | bad => rw [q] at h; cases h
theorem noExc_of {α : Type} {x : MM α} {M M' : Mem} {a : α} (h : x M = .ok a M') : noExc x M = .ok a M' := by unfold noExc; rw [h]
theorem bind_ok {α β : Type} {x : MM α} {f : α → MM β} {M M' : Mem} {b : β} (h : MM.bind x f M = .ok b M') : ∃ a M1, x M = .ok a M1 ∧ f a M1 = .ok b M' := by
  unfold MM.bind at h
  cases q : x M with
  | ok a M1 => rw [q] at h; exact ⟨a, M1, rfl, h⟩
  | exc c p M1 => rw [q] at h; cases h
  | bad => rw [q] at h; cases h
open PySem.Spec
def sOf (l : List Nat) : PySem.Str := ⟨l.toArray⟩
mutual
def toP : D → PyData
  | .non => .none | .bl b => .bool b | .int i => .int i | .str s => .str (sOf s)
  | .tup l => .tuple (toPs l) | .lst l => .list (toPs l)
  | _ => .none
def toPs : List D → List PyData
  | [] => []
  | d :: ds => toP d :: toPs ds
end
mutual
/-- values whose repr is told: depth at most n, no dicts -/
def shw : Nat → D → Bool
  | _, .non | _, .bl _ | _, .str _ => true
  | _, .int i => decide (i.natAbs.log2 < 1920)
  | n + 1, .tup l | n + 1, .lst l => shws n l
  | _, _ => false
def shws : Nat → List D → Bool
  | _, [] => true
  | n, d :: ds => shw n d && shws n ds
end
def reprD (d : D) : Option (List Nat) := if shp 16 d && shw 16 d then some (toP d).shown.cps.toList else none
end MP
end

section
set_option linter.all false
namespace MP
open PySem
open L2 (blkC)

/-- what the reading of a def's text is given: the slots' names, the names that the def mutates, the block's scope, the parameters of defs -/
structure Cs where
  N : List Str
  MV : List Str
  sc : Scope
  sig : List (Str × Nat × List Str)
  consts : List (Str × Nat)
  clss : List (Str × Nat)
  kws : List (Str × Nat × List Str)
  jar : Bool

def txt (x : Str) : List Nat := x.cps.toList
def nm (x : Str) : String := x.toString
def slot (S : Cs) (x : Str) : Option Nat :=
  match S.sc.names.lookup x with
  | some .local | some .cell | some .free => S.N.findIdx? (· == x)
  | _ => none
def isGl (S : Cs) (x : Str) : Bool := S.sc.names.lookup x == some .globalImplicit
/-- a built-in's name, a global one -/
def isB (S : Cs) (x : Str) (y : String) : Bool := x == Str.ofString y && isGl S x

def cOp : Operator → Option BOp
  | .Add => some .add | .Sub => some .sub | .Mult => some .mul | .FloorDiv => some .fdiv | .Mod => some .mod | .Pow => some .pow
  | _ => none
def cCmp : CmpOp → Option COp
  | .Eq => some .eq | .NotEq => some .ne | .Lt => some .lt | .LtE => some .le | .Gt => some .gt | .GtE => some .ge
  | .Is => some .isT | .IsNot => some .notT | .In => some .inn | .NotIn => some .nin
def bi1 (x : Str) : Option Bi :=
  if x == "len" then some .len else if x == "tuple" then some .tuple else if x == "list" then some .list
  else if x == "all" then some .all else if x == "any" then some .any else if x == "int" then some .int
  else if x == "str" then some .str else if x == "repr" then some .repr else if x == "abs" then some .abs
  else if x == "min" then some .minl else if x == "sum" then some .sum else if x == "max" then some .maxl else none
def bi2 (x : Str) : Option Bi :=
  if x == "min" then some .min else if x == "max" then some .max else if x == "divmod" then some .divmod else none
def mtOf (x : Str) : Option Mt :=
  if x == "count" then some .count else if x == "join" then some .join else if x == "index" then some .index
  else if x == "split" then some .split else if x == "upper" then some .upper else if x == "get" then some .get else none
/-- methods that are read -/
def mtRd : Mt → Bool
  | .count | .join | .index | .split => true
  | _ => false
def noSup : Expr → Bool
  | .Call (.Name x _) [] [] _ => x != "super"
  | _ => true
def tyOf (x : Str) : Option Ty :=
  if x == "int" then some .int else if x == "bool" then some .bool else if x == "str" then some .str else if x == "tuple" then some .tuple else none
/-- own classes, too -/
def tyOf' (S : Cs) (x : Str) : Option Ty := match S.clss.lookup x with
  | some 0 => some .gate
  | some 1 => some .box
  | some _ => none
  | none => tyOf x
/-- only such built-ins borrow -/
def borrows : Bi → Bool
  | .len | .tuple | .list => true
  | _ => false
mutual
def cTn (S : Cs) : Nat → Expr → Option Tn
  | 0, _ => none
  | n + 1, e => match e with
    | .Name x _ => if S.MV.contains x then none else match S.sc.names.lookup x with
      | some .local | some .cell => (S.N.findIdx? (· == x)).map .name
      | _ => none
    | .Tuple es _ _ => (cTns S n es).map .tup
    | _ => none
def cTns (S : Cs) : Nat → List Expr → Option (List Tn)
  | 0, _ => none
  | n + 1, es => match es with
    | [] => some []
    | e :: r => (cTn S n e).bind fun t => (cTns S n r).map fun ts => t :: ts
end
/-- the names that a comprehension's block binds, with their slots -/
def ownOf (N : List Str) (sc : Scope) : List (Str × Nat) :=
  sc.names.filterMap fun y => if y.2 == .local || y.2 == .cell then (N.findIdx? (· == y.1)).map fun i => (y.1, i) else none
def permOf (ks : List Str) (npos : Nat) (ps : List Str) : Option (List Nat) :=
  mapO (fun (p : Str × Nat) => if p.2 < npos then some p.2 else (ks.findIdx? (· == p.1)).map fun j => npos + j) (ps.zip (List.range ps.length))
/-- pairs are unpacked at once -/
def tnOk : ItK → Tn → Bool
  | .zip, .tup _ | .enum, .tup _ => true
  | .zip, _ | .enum, _ => false
  | _, _ => true
def isRg (S : Cs) : Expr → Bool
  | .Call (.Name g _) _ _ _ => isB S g "range"
  | _ => false
mutual
def cE : Nat → Cs → Expr → Option C
  | 0, _, _ => none
  | n + 1, S, e => match e with
    | .Constant .none _ _ => some .non
    | .Constant (.bool b) _ _ => some (.bl b)
    | .Constant (.int i) _ _ => some (.int i)
    | .Constant (.str x) _ _ => if x.cps.toList.all (· < 0x110000) && decide (x.cps.size ≤ szLine) then some (.str (txt x)) else none
    | .Name x _ => if isGl S x then (match S.clss.lookup x with | some c => some (.cls c) | none => (S.consts.lookup x).map C.glob) else (slot S x).map .var
    | .BinOp a o b _ => (cOp o).bind fun o => (cE n S a).bind fun a => (cE n S b).map fun b => .bin o a b
    | .UnaryOp .USub a _ => (cE n S a).map .neg
    | .UnaryOp .Not a _ => (cE n S a).map .not
    | .BoolOp o es _ => cBool n S o es
    | .Compare a [o] [b] _ => (cCmp o).bind fun o => (cB n S a).bind fun a => (cB n S b).map fun b => .cmp o a b
    | .Compare a [o, o'] [b, c] _ => (cCmp o).bind fun o => (cCmp o').bind fun o' => (cE n S a).bind fun a => (cE n S b).bind fun b => (cE n S c).map fun c => .chain o o' a b c
    | .IfExp t a b _ => (cE n S t).bind fun t => (cE n S a).bind fun a => (cE n S b).map fun b => .ite t a b
    | .Tuple es _ _ => (cEs n S es).map .tup
    | .List es _ => (cEs n S es).map .lst
    | .Dict ks vs _ => if ks.length ≤ 15 then (cDict n S ks vs).map .dct else none
    | .Subscript a (.Slice none none (some (.UnaryOp .USub (.Constant (.int 1) _ _) _)) _) _ => (cB n S a).map .rev
    | .Subscript a (.Slice lo hi none _) _ => (cB n S a).bind fun a => (cO n S lo).bind fun lo => (cO n S hi).map fun hi => .slc a lo hi
    | .Subscript a i _ => (cB n S a).bind fun a => (cE n S i).map fun i => .idx a i
    | .ListComp el [⟨t, it, cond, 0⟩] sc _ =>
      (cIt n S it).bind fun k => (cTn { S with sc := sc } n t).bind fun t => (cE n { S with sc := sc } el).bind fun el => (cEs n { S with sc := sc } cond).bind fun cond =>
        if tnOk k.1 t && t.ixs.all ((ownOf S.N sc).map (·.2)).contains && blkC S.N S.sc sc (ownOf S.N sc) && decide (cond.length ≤ 1) then some (.lc el t k.1 k.2 cond ((ownOf S.N sc).map (·.2))) else none
    | .ListComp el [⟨t, it, cond, 0⟩, ⟨t1, it1, cond1, 0⟩] sc _ =>
      (cIt n S it).bind fun k => (cTn { S with sc := sc } n t).bind fun t => (cEs n { S with sc := sc } cond).bind fun cond => (cIt n { S with sc := sc } it1).bind fun k1 => (cTn { S with sc := sc } n t1).bind fun t1 => (cEs n { S with sc := sc } cond1).bind fun cond1 => (cE n { S with sc := sc } el).bind fun el =>
        if (tnOk k.1 t && tnOk k1.1 t1) && (t.ixs.all ((ownOf S.N sc).map (·.2)).contains && t1.ixs.all ((ownOf S.N sc).map (·.2)).contains) && blkC S.N S.sc sc (ownOf S.N sc) && decide (cond.length ≤ 1 ∧ cond1.length ≤ 1) then some (.lc2 el t k.1 k.2 cond t1 k1.1 k1.2 cond1 ((ownOf S.N sc).map (·.2)) t1.ixs) else none
    | .Attribute a f _ => if noSup a && (fieldT.contains f || propT.contains f) then (cE n S a).map fun a => .attr f a else none
    | .Call (.Name f _) es kws _ => if isGl S f then (match S.clss.lookup f with | some c => cMake n S c es kws | none => cCallN n S f es kws) else none
    | .Call (.Attribute r m ap) es kws cp => (match mtOf m with
      | some mt => (match es, kws with
        | a :: es, [] => if (mtRd mt && noSup r) && (ap.endLine == cp.line && decide (es.length ≤ 5)) then (cB n S r).bind fun r => (cEs n S (a :: es)).map fun as => .mth mt r as else none
        | _, _ => none)
      | none => if noSup r && (ap.endLine == cp.line && decide (es.length + kws.length ≤ 5)) then cMeth n S r m es kws else none)
    | _ => none
/-- C(..) -/
def cMake : Nat → Cs → Nat → List Expr → List Keyword → Option C
  | 0, _, _, _, _ => none
  | n + 1, S, c, es, kws => match es, kws with
    | [a], [] => (methNo c "__init__").bind fun f => (cE n S a).map fun a => .mkc c f a
    | [], [⟨some x, a, _⟩] => if initP[c]? == some x then (methNo c "__init__").bind fun f => (cE n S a).map fun a => .mkc c f a else none
    | _, _ => none
/-- o.m(..), m a method of own classes -/
def cMeth : Nat → Cs → Expr → Str → List Expr → List Keyword → Option C
  | 0, _, _, _, _, _ => none
  | n + 1, S, r, m, es, kws => (msigT.lookup m).bind fun ps => (cEs n S es).bind fun cs => (cKw n S kws).bind fun kvs =>
      if decide (kvs.map (·.1)).Nodup && (kvs.map (·.1)).all (ps.drop es.length).contains && es.length + kvs.length == ps.length then (permOf (kvs.map (·.1)) es.length ps).bind fun pm =>
        (match r with
        | .Name x _ => if isGl S x then (S.clss.lookup x).bind fun c => if m == "read" then (methNo c m).map fun k => .callp k (.cls c :: (cs ++ kvs.map (·.2))) (0 :: pm.map (· + 1)) else none
          else if m == "read" || propT.contains m then none else (cE n S r).map fun r => .meth m r (cs ++ kvs.map (·.2)) pm
        | r => if m == "read" || propT.contains m then none else (cE n S r).map fun r => .meth m r (cs ++ kvs.map (·.2)) pm)
      else none
/-- an operand that may be a list of the frame's own -/
def cB : Nat → Cs → Expr → Option C
  | 0, _, _ => none
  | n + 1, S, e => match e with
    | .Name x _ => if S.MV.contains x then (slot S x).map .bvar else cE n S e
    | e => cE n S e
def cO : Nat → Cs → Option Expr → Option C
  | 0, _, _ => none
  | n + 1, S, e => match e with
    | none => some .non
    | some e => (cE n S e).bind fun c => match c with
      | .non => none
      | c => some c
def cBool : Nat → Cs → BoolOp → List Expr → Option C
  | 0, _, _, _ => none
  | n + 1, S, o, es => match es with
    | [] => none
    | [a] => cE n S a
    | a :: r => (cE n S a).bind fun a => (cBool n S o r).map fun b => match o with
      | .And => .and a b
      | .Or => .or a b
def cEs : Nat → Cs → List Expr → Option (List C)
  | 0, _, _ => none
  | n + 1, S, es => match es with
    | [] => some []
    | a :: r => (cE n S a).bind fun a => (cEs n S r).map fun r => a :: r
def cKw : Nat → Cs → List Keyword → Option (List (Str × C))
  | 0, _, _ => none
  | n + 1, S, es => match es with
    | [] => some []
    | ⟨some x, a, _⟩ :: r => (cE n S a).bind fun a => (cKw n S r).map fun r => (x, a) :: r
    | _ => none
def cDict : Nat → Cs → List (Option Expr) → List Expr → Option (List C)
  | 0, _, _, _ => none
  | n + 1, S, ks, vs => match ks, vs with
    | [], [] => some []
    | some k :: ks, v :: vs => (cE n S k).bind fun k => (cE n S v).bind fun v => (cDict n S ks vs).map fun r => k :: v :: r
    | _, _ => none
def cCallN : Nat → Cs → Str → List Expr → List Keyword → Option C
  | 0, _, _, _, _ => none
  | n + 1, S, f, es, kws => match kws with
    | [] => (match S.sig.lookup f with
      | some ps => if es.length == ps.2.length then (cEs n S es).map fun es => .call ps.1 es else none
      | none => cBi n S f es)
    | kws => (S.sig.lookup f).bind fun ps => (cEs n S es).bind fun es => (cKw n S kws).bind fun kvs =>
        if S.kws.contains (f, es.length, kvs.map (·.1)) && es.length + kvs.length == ps.2.length then (permOf (kvs.map (·.1)) es.length ps.2).map fun pm => .callp ps.1 (es ++ kvs.map (·.2)) pm else none
def cBi : Nat → Cs → Str → List Expr → Option C
  | 0, _, _, _ => none
  | n + 1, S, f, es => match es with
    | [a] => if f == "list" && isRg S a then cRg n S a else (bi1 f).bind fun b => (if borrows b then cB n S a else cE n S a).map fun a => .bi b [a]
    | [a, b] => if f == "isinstance" then (match b with
        | .Name t _ => if isGl S t then (tyOf' S t).bind fun t => (cB n S a).map fun a => .isi a t else none
        | _ => none)
      else (bi2 f).bind fun o => (cE n S a).bind fun a => (cE n S b).map fun b => .bi o [a, b]
    | _ => none
/-- list(range(..)) -/
def cRg : Nat → Cs → Expr → Option C
  | 0, _, _ => none
  | n + 1, S, e => match e with
    | .Call (.Name _ _) [a] [] _ => (cE n S a).map fun a => .bi .listrange [a]
    | .Call (.Name _ _) [a, b] [] _ => (cE n S a).bind fun a => (cE n S b).map fun b => .bi .listrange2 [a, b]
    | _ => none
def cIt : Nat → Cs → Expr → Option (ItK × List C)
  | 0, _, _ => none
  | n + 1, S, e => match e with
    | .Call (.Name f _) es [] _ =>
      if isB S f "range" then (match es with
        | [a] => (cE n S a).map fun a => (.range1, [a])
        | [a, b] => (cE n S a).bind fun a => (cE n S b).map fun b => (.range2, [a, b])
        | _ => none)
      else if isB S f "zip" then (match es with
        | [a, b] => (cE n S a).bind fun a => (cE n S b).map fun b => (.zip, [a, b])
        | _ => none)
      else if isB S f "enumerate" then (match es with
        | [a] => (cE n S a).map fun a => (.enum, [a])
        | _ => none)
      else (cE n S e).map fun a => (.seq, [a])
    | e => (cE n S e).map fun a => (.seq, [a])
end
/-! ### statements -/
def isMV (S : Cs) (x : Str) : Bool := S.MV.contains x
def tgName (S : Cs) (x : Str) : Option (Nat × Bool) :=
  match S.sc.names.lookup x with
  | some .local | some .cell => (S.N.findIdx? (· == x)).map fun i => (i, isMV S x)
  | _ => none
mutual
def cTg : Nat → Cs → Expr → Option Tg
  | 0, _, _ => none
  | n + 1, S, e => match e with
    | .Name x _ => (tgName S x).bind fun p => if p.2 then none else some (.name p.1)
    | .Tuple es _ _ => (cTgs n S es).map .tup
    | .Subscript (.Name x _) k _ => if isMV S x then (tgName S x).bind fun p => (cE n S k).map fun k => .sub p.1 k
        else (slot S x).bind fun i => (cE n S k).map fun k => .msub (.var i) k
    | _ => none
def cTgs : Nat → Cs → List Expr → Option (List Tg)
  | 0, _, _ => none
  | n + 1, S, es => match es with
    | [] => some []
    | e :: r => (cTg n S e).bind fun t => (cTgs n S r).map fun ts => t :: ts
end
mutual
/-- the names in an expression that stand where a value is handed on -/
def esc : Nat → Expr → List Str
  | 0, _ => []
  | n + 1, e => match e with
    | .Name x _ => [x]
    | .BoolOp _ es _ => escs n es
    | .BinOp a _ b _ => esc n a ++ esc n b
    | .UnaryOp _ a _ => esc n a
    | .IfExp t a b _ => esc n t ++ esc n a ++ esc n b
    | .Compare a _ es _ => escB n a ++ escBs n es
    | .Dict ks vs _ => escs n (ks.filterMap id) ++ escs n vs
    | .ListComp el gs _ _ => esc n el ++ escs n (gs.flatMap fun g => g.iter :: g.ifs)
    | .Call f es kws _ => (match f with
        | .Attribute r _ _ => escB n r
        | _ => []) ++ (match f with
        | .Name x _ => if x == "len" || x == "tuple" || x == "list" then escBs n es else escs n es
        | _ => escs n es) ++ escs n (kws.map (·.value))
    | .Subscript a i _ => escB n a ++ (match i with
        | .Slice lo hi _ _ => escs n (lo.toList ++ hi.toList)
        | i => esc n i)
    | .List es _ => escs n es
    | .Tuple es _ _ => escs n es
    | .Attribute a _ _ => esc n a
    | _ => []
def escB : Nat → Expr → List Str
  | 0, _ => []
  | n + 1, e => match e with
    | .Name _ _ => []
    | e => esc n e
def escs : Nat → List Expr → List Str
  | 0, _ => []
  | n + 1, es => match es with
    | [] => []
    | e :: r => esc n e ++ escs n r
def escBs : Nat → List Expr → List Str
  | 0, _ => []
  | n + 1, es => match es with
    | [] => []
    | e :: r => escB n e ++ escBs n r
end
def shares (S : Cs) (xs : List Str) : List MP.S :=
  xs.eraseDups.filterMap fun x => if isMV S x then (slot S x).map .share else none
def shareE (n : Nat) (S : Cs) (es : List Expr) : List MP.S := shares S (escs n es)
/-- several names, several values at once: all local and stored from the right, or one not local -/
def parOk (S : Cs) (ts vs : List Expr) : Bool :=
  (ts.length == 2 || ts.length == 3) && vs.length == ts.length && !vs.all (foldedForSure 8) && !vs.all (constantsAlone 8)
def cAsg (n : Nat) (S : Cs) (t v : Expr) : Option (List MP.S) := match t with
    | .Name x _ => (match v with
      | .Call (.Attribute (.Name y _) m ap) [k] [] cp =>
        if m == "pop" && isMV S y && ap.endLine == cp.line then (tgName S x).bind fun p => if p.2 then none else (tgName S y).bind fun q => (cE n S k).map fun k' => shareE n S [k] ++ [.setPop p.1 q.1 k']
        else (tgName S x).bind fun p => (cE n S v).map fun c => shareE n S [v] ++ [.set p.1 p.2 c]
      | .Name y _ => if isMV S x && isMV S y then (tgName S x).bind fun p => (slot S y).map fun j => [.move p.1 j]
        else (tgName S x).bind fun p => (cE n S v).map fun c => shareE n S [v] ++ [.set p.1 p.2 c]
      | v => (tgName S x).bind fun p => (cE n S v).map fun c => shareE n S [v] ++ [.set p.1 p.2 c])
    | .Tuple ts _ _ => (match v with
      | .Tuple vs _ _ => (match mapO (fun t => match t with
          | .Name x _ => tgName S x
          | _ => none) ts with
        | some l => if vs.all (foldedForSure 8) then (cTg n S t).bind fun t => (cE n S v).map fun c => shareE n S [v] ++ [.asg t c]
            else if parOk S ts vs && decide (l.map (·.1)).Nodup then (cEs n S vs).map fun cs => shareE n S vs ++ [.par l cs] else none
        | none => (cTg n S t).bind fun t => (cE n S v).map fun c => shareE n S [v] ++ [.asg t c])
      | v => (cTg n S t).bind fun t => (cE n S v).map fun c => shareE n S [v] ++ [.asg t c])
    | t => (cTg n S t).bind fun t' => (cE n S v).map fun c => shareE n S [v] ++ [.asg t' c]
/-- xs.append(..), xs.extend(..) -/
def cM1 (n : Nat) (S : Cs) (x m : Str) (a : Expr) : Option (List MP.S) := (slot S x).bind fun i => if m == "append" then (match a with
      | .Call (.Attribute (.Name y _) m' ap) [k] [] cp => if m' == "pop" && isMV S y then (if ap.endLine == cp.line then (slot S y).bind fun j => (cE n S k).map fun k' => shareE n S [k] ++ [.appPop i j k'] else none)
          else (cE n S a).map fun c => shareE n S [a] ++ [.append i c]
      | a => (cE n S a).map fun c => shareE n S [a] ++ [.append i c])
    else if m == "extend" then (cE n S a).map fun c => shareE n S [a] ++ [.extend i c]
    else none
def cX (n : Nat) (S : Cs) (e : Expr) : Option (List MP.S) := match e with
    | .Call (.Attribute (.Name x _) m ap) [a] [] cp => if isMV S x then (if ap.endLine == cp.line then cM1 n S x m a else none)
      else (cE n S e).map fun c => shareE n S [e] ++ [.expr c]
    | .Call (.Attribute (.Name x _) m ap) [k, a] [] cp => if isMV S x then (if m == "insert" && ap.endLine == cp.line then (slot S x).bind fun i => (cE n S k).bind fun kk => (cE n S a).map fun c => shareE n S [k, a] ++ [.insert i kk c] else none)
      else (cE n S e).map fun c => shareE n S [e] ++ [.expr c]
    | .ListComp _ _ _ _ => none
    | e => (cE n S e).map fun c => shareE n S [e] ++ [.expr c]
mutual
def cS : Nat → Cs → Stmt → Option (List MP.S)
  | 0, _, _ => none
  | n + 1, S, st => match st with
    | .Assign [t] v _ => cAsg n S t v
    | .AugAssign (.Name x _) o v _ => (tgName S x).bind fun p => if p.2 then none else (cOp o).bind fun o => (cE n S v).map fun c => shareE n S [v] ++ [.aug p.1 o c]
    | .AugAssign (.Subscript (.Name x _) k _) .Add v _ => if isMV S x then (slot S x).bind fun i => (cE n S k).bind fun kk => (cE n S v).map fun c => shareE n S [k, v] ++ [.augSub i kk .add c] else none
    | .For t it b [] _ => (cTn S n t).bind fun t => (cIt n S it).bind fun k => if tnOk k.1 t then (cSs n S b).map fun b => shareE n S [it] ++ [.for_ t k.1 k.2 b] else none
    | .While c b [] _ => if (shareE n S [c]).isEmpty then (cE n S c).bind fun c => (cSs n S b).map fun b => [.while_ c b] else none
    | .If c a b _ => (cE n S c).bind fun cc => (cSs n S a).bind fun a => (cSs n S b).map fun b => shareE n S [c] ++ [.ite cc a b]
    | .Return none _ => some [.retN]
    | .Return (some (.Name x p)) _ => if isMV S x then (slot S x).map fun i => [.retO i] else (cE n S (.Name x p)).map fun c => [.ret c]
    | .Return (some (.List es p)) _ => if S.jar then (cEs n S es).map fun cs => [.ret (.mkmut cs)] else (cE n S (.List es p)).map fun c => shareE n S es ++ [.ret c]
    | .Return (some e) _ => (cE n S e).map fun c => shareE n S [e] ++ [.ret c]
    | .Expr e _ => cX n S e
    | .Pass _ => some [.pass]
    | .Raise _ _ _ => some [.raise 0 []]
    | _ => none
def cSs : Nat → Cs → List Stmt → Option (List MP.S)
  | 0, _, _ => none
  | n + 1, S, ss => match ss with
    | [] => some []
    | s :: r => (cS n S s).bind fun a => (cSs n S r).map fun b => a ++ b
end
/-! ### a def -/
mutual
/-- the names that a text mutates -/
def mutS : Nat → Stmt → List Str
  | 0, _ => []
  | n + 1, st => match st with
    | .Assign ts v _ => mutT n ts ++ mutE v
    | .AugAssign t _ _ _ => mutT n [t]
    | .Expr e _ => mutE e
    | .For _ _ b _ _ => mutSs n b
    | .While _ b _ _ => mutSs n b
    | .If _ a b _ => mutSs n a ++ mutSs n b
    | _ => []
def mutSs : Nat → List Stmt → List Str
  | 0, _ => []
  | n + 1, ss => match ss with
    | [] => []
    | s :: r => mutS n s ++ mutSs n r
def mutT : Nat → List Expr → List Str
  | 0, _ => []
  | n + 1, ts => match ts with
    | [] => []
    | .Subscript (.Name x _) _ _ :: r => x :: mutT n r
    | .Tuple es _ _ :: r => mutT n es ++ mutT n r
    | _ :: r => mutT n r
def mutE : Expr → List Str
  | .Call (.Attribute (.Name x _) m _) es _ _ => (if m == "append" || m == "extend" || m == "insert" || m == "pop" then [x] else []) ++ (match es with
    | [.Call (.Attribute (.Name y _) m' _) _ _ _] => if m' == "pop" then [y] else []
    | _ => [])
  | _ => []
end
/-- the names of comprehensions' blocks (and of the def) -/
def scopeNames (sc : Scope) : List Str := sc.names.filterMap fun y => if y.2 == .local || y.2 == .cell then some y.1 else none
mutual
def lcE : Nat → Expr → List Str
  | 0, _ => []
  | n + 1, e => match e with
    | .BoolOp _ es _ => lcEs n es
    | .BinOp a _ b _ => lcE n a ++ lcE n b
    | .UnaryOp _ a _ => lcE n a
    | .IfExp t a b _ => lcE n t ++ lcE n a ++ lcE n b
    | .Compare a _ es _ => lcE n a ++ lcEs n es
    | .Dict ks vs _ => lcEs n (ks.filterMap id) ++ lcEs n vs
    | .ListComp el gs sc _ => scopeNames sc ++ lcE n el ++ lcEs n (gs.flatMap fun g => g.iter :: g.ifs)
    | .Call f es kws _ => lcE n f ++ lcEs n es ++ lcEs n (kws.map (·.value))
    | .Attribute a _ _ => lcE n a
    | .Subscript a i _ => lcE n a ++ lcE n i
    | .Slice lo hi _ _ => lcEs n (lo.toList ++ hi.toList)
    | .List es _ => lcEs n es
    | .Tuple es _ _ => lcEs n es
    | _ => []
def lcEs : Nat → List Expr → List Str
  | 0, _ => []
  | n + 1, es => match es with
    | [] => []
    | e :: r => lcE n e ++ lcEs n r
end
mutual
def lcS : Nat → Stmt → List Str
  | 0, _ => []
  | n + 1, st => match st with
    | .Assign ts v _ => lcEs n (v :: ts)
    | .AugAssign t _ v _ => lcEs n [t, v]
    | .Expr e _ => lcE n e
    | .For t it b _ _ => lcEs n [t, it] ++ lcSs n b
    | .While c b _ _ => lcE n c ++ lcSs n b
    | .If c a b _ => lcE n c ++ lcSs n a ++ lcSs n b
    | .Return (some e) _ => lcE n e
    | .Raise (some e) _ _ => lcE n e
    | _ => []
def lcSs : Nat → List Stmt → List Str
  | 0, _ => []
  | n + 1, ss => match ss with
    | [] => []
    | s :: r => lcS n s ++ lcSs n r
end
def fuel : Nat := 200
/-! names that are handed back: lists of the def's own -/
mutual
/-- what is stored under names, one by one -/
def asgS : Nat → Stmt → List (Str × Expr)
  | 0, _ => []
  | n + 1, st => match st with
    | .Assign [.Name x _] v _ => [(x, v)]
    | .For _ _ b _ _ => asgSs n b
    | .While _ b _ _ => asgSs n b
    | .If _ a b _ => asgSs n a ++ asgSs n b
    | _ => []
def asgSs : Nat → List Stmt → List (Str × Expr)
  | 0, _ => []
  | n + 1, ss => match ss with
    | [] => []
    | s :: r => asgS n s ++ asgSs n r
end
def namesE : Nat → Expr → List Str
  | 0, _ => []
  | n + 1, e => match e with
    | .Name x _ => [x]
    | .Tuple es _ _ => es.flatMap (namesE n)
    | _ => []
mutual
/-- names that are stored otherwise; names that are handed back -/
def othS : Nat → Stmt → List Str
  | 0, _ => []
  | n + 1, st => match st with
    | .Assign [.Name _ _] _ _ => []
    | .Assign ts _ _ => ts.flatMap (namesE n)
    | .AugAssign t _ _ _ => namesE n t
    | .For t _ b _ _ => namesE n t ++ othSs n b
    | .While _ b _ _ => othSs n b
    | .If _ a b _ => othSs n a ++ othSs n b
    | _ => []
def othSs : Nat → List Stmt → List Str
  | 0, _ => []
  | n + 1, ss => match ss with
    | [] => []
    | s :: r => othS n s ++ othSs n r
end
mutual
def retS : Nat → Stmt → List Str
  | 0, _ => []
  | n + 1, st => match st with
    | .Return (some (.Name x _)) _ => [x]
    | .For _ _ b _ _ => retSs n b
    | .While _ b _ _ => retSs n b
    | .If _ a b _ => retSs n a ++ retSs n b
    | _ => []
def retSs : Nat → List Stmt → List Str
  | 0, _ => []
  | n + 1, ss => match ss with
    | [] => []
    | s :: r => retS n s ++ retSs n r
end
def isLstE : Nat → Expr → Bool
  | 0, _ => false
  | n + 1, e => match e with
    | .List _ _ => true
    | .ListComp _ _ _ _ => true
    | .BinOp a .Add b _ => isLstE n a || isLstE n b
    | _ => false
def nmE : Expr → Option Str
  | .Name y _ => some y
  | _ => none
def freshL (ps : List Str) (body : List Stmt) : List Str :=
  let rs := retSs fuel body
  if rs.isEmpty then [] else
  let as := asgSs fuel body
  let oth := othSs fuel body
  let c0 := ((as.map (·.1)).eraseDups).filter fun x => !ps.contains x && !oth.contains x && as.all fun p => !(p.1 == x) || isLstE 8 p.2 || (nmE p.2).isSome
  let prune := fun (c : List Str) => c.filter fun x => as.all fun p => !(p.1 == x) || isLstE 8 p.2 || (match nmE p.2 with | some y => c.contains y | none => false)
  let c := prune (prune (prune c0))
  let r0 := c.filter rs.contains
  let grow := fun (r : List Str) => c.filter fun y => r.contains y || as.any fun p => r.contains p.1 && nmE p.2 == some y
  grow (grow r0)
/-- the names that a def changes or hands back as its own -/
def mvOf (ps : List Str) (body : List Stmt) : List Str := (((mutSs fuel body).filter fun x => !ps.contains x) ++ freshL ps body).eraseDups
def namesOf (params : Arguments) (body : List Stmt) (sc : Scope) : List Str :=
  ((params.args.map (·.arg)) ++ scopeNames sc ++ lcSs fuel body).eraseDups
/-- a def as data -/
def cFn (sig : List (Str × Nat × List Str)) (consts clss : List (Str × Nat)) (kws : List (Str × Nat × List Str)) (jar : Bool) (params : Arguments) (body : List Stmt) (sc : Scope) : Option Fn :=
  let N := namesOf params body sc
  let ps := params.args.map (·.arg)
  let S : Cs := { N, MV := mvOf ps body, sc, sig, consts, clss, kws, jar }
  (cSs fuel S body).map fun b => ⟨N.length, ps.length, b, 0⟩
end MP
end

section
set_option linter.all false
set_option Elab.async false
set_option maxRecDepth 100000
namespace MP
open PySem PySem.Spec PyProof.Rows L2
/-- parameters of the plain kind -/
def plainPs (p : Arguments) : Bool := p.posonlyargs.isEmpty && p.vararg.isNone && p.kwonlyargs.isEmpty && p.kwarg.isNone
/-- a def of the written part, by its name -/
def entK (K : PySem.W.Frag) (x : Str) : Option (Addr × FuncData) := match PySem.W.nsIn K mainGlobals x with
  | some (some (.ref f)) => (match K.lookup f with
    | some ⟨_, _, .func fd, _⟩ => some (f, fd)
    | _ => none)
  | _ => none
def bodyOf (fd : FuncData) : List Stmt := match fd.body with
  | .stmts b => b
  | _ => []
def psOf (fd : FuncData) : List Str := fd.params.args.map (·.arg)
def nOf (fd : FuncData) : List Str := namesOf fd.params (bodyOf fd) fd.scope
/-- the def's form is one that the layer covers -/
def entOk (K : PySem.W.Frag) (fd : FuncData) : Bool :=
  fd.globals == mainGlobals && fd.closure.isEmpty && fd.builtins == builtinsNs && (match fd.body with | .stmts _ => true | _ => false) && (match fd.defaults with | .none => true | _ => false) && plainPs fd.params &&
  decide (psOf fd).Nodup && PySem.W.codeIn K fd.code fd.qualname && C8.scC (nOf fd) (psOf fd) fd.scope && (nOf fd).all (fun x => !(x == ("__debug__" : Str)) && !(x == ("__classdict__" : Str))) && decide ((psOf fd).length ≤ (nOf fd).length)
def entG (K : PySem.W.Frag) (x : Str) : Option (Addr × FuncData) := (entK K x).bind fun p => if entOk K p.2 && !(x == ("__debug__" : Str)) then some p else none
def sigK (K : PySem.W.Frag) (names : List Str) : List (Str × Nat × List Str) := (names.zip (List.range names.length)).filterMap fun p => (entG K p.1).map fun q => (p.1, p.2, psOf q.2)
/-- keywords that a call may give -/
def kwsOf (sig : List (Str × Nat × List Str)) (kws : List (Str × Nat × List Str)) : List (Str × Nat × List Str) :=
  kws.filter fun q => match sig.lookup q.1 with
    | some ps => decide q.2.2.Nodup && q.2.2.all (ps.2.drop q.2.1).contains
    | none => false
/-- a constant of the text -/
def conD (K : PySem.W.Frag) : Nat → Value → Option D
  | 0, _ => none
  | n + 1, v => match v with
    | .none => some .non
    | .bool b => some (.bl b)
    | .int i _ => some (.int i)
    | .str s _ => if s.cps.toList.all (· < 0x110000) && decide (s.cps.size ≤ szLine) then some (.str s.cps.toList) else none
    | .ref a => (match K.lookup a with
      | some ⟨.type "tuple", none, .seq its _, _⟩ => if its.size ≤ szLine then (mapO (conD K n) its.toList).map .tup else none
      | _ => none)
    | _ => none
/-- a dict of the text's own with text keys -/
def dictE (K : PySem.W.Frag) : Value → Option (Addr × List DictEntry)
  | .ref a => (match K.lookup a with
    | some ⟨_, _, .dict es _, _⟩ => some (a, es.toList)
    | _ => none)
  | _ => none
def entD (K : PySem.W.Frag) (e : DictEntry) : Option (Str × D) := match e.key with
  | .str s _ => (conD K 8 e.val).map fun d => (s, d)
  | _ => none
def dictD (K : PySem.W.Frag) (es : List DictEntry) : Option D := (mapO (entD K) es).bind fun l =>
  if decide (l.map (·.1)).Nodup && !l.isEmpty then some (.dct (l.map fun p => .str p.1.cps.toList) (l.map (·.2))) else none
def conK (K : PySem.W.Frag) (x : Str) : Option D := if x == ("__debug__" : Str) then none else match PySem.W.nsIn K mainGlobals x with
  | some (some v) => (match dictE K v with
    | some (_, es) => dictD K es
    | none => conD K 8 v)
  | _ => none
structure Txt where
  names : List Str
  consts : List Str
  kws : List (Str × Nat × List Str)
  jars : List Str
def conIds (T : Txt) : List (Str × Nat) := T.consts.zip (List.range T.consts.length)
/-! ### own classes -/
inductive MK where
  | meth | prop (p : Addr) | cm (p : Addr)
def clsAt (K : PySem.W.Frag) (c : Nat) : Option Addr := (clsTab[c]?).bind fun t => match PySem.W.nsIn K mainGlobals t.1 with
  | some (some (.ref C)) => some C
  | _ => none
def fnAt (K : PySem.W.Frag) (g : Addr) : Option FuncData := match K.lookup g with
  | some ⟨_, _, .func fd, _⟩ => if entOk K fd then some fd else none
  | _ => none
/-- a classmethod's record is found as the model finds it -/
def cmOk (K : PySem.W.Frag) (C p g : Addr) (m : Str) : Bool := PySem.W.readsIn K C (.type "type") && (PySem.W.specialIn K (.ref C) "__getattribute__" == some (some (.builtin "type.__getattribute__"))) && PySem.W.fnIn K g && (match PySem.W.findCls K (.ref C) (.type "type") m with
  | some (.get (.builtin b) (.ref p') .none (.ref C')) => b == "classmethod.__get__" && (p' == p && C' == C)
  | _ => false)
/-- a member of a class: what it is, its def -/
def memK (K : PySem.W.Frag) (c : Nat) (m : Str) : Option (MK × Addr × FuncData) := (clsAt K c).bind fun C => match PySem.W.findIn K (.ref C) m with
  | some (some (.ref f)) => if PySem.W.isFn K (.ref f) && PySem.W.keepIn K (.ref f) then (fnAt K f).map fun fd => (.meth, f, fd) else (match PySem.W.recIn K f "property" with
    | some (.ref g :: _) => if PySem.W.specialIn K (.ref f) "__get__" == some (some (.builtin "property.__get__")) && PySem.W.takesIn K (.ref f) == some true then (fnAt K g).map fun fd => (.prop f, g, fd) else none
    | _ => (match PySem.W.recIn K f "classmethod" with
      | some (.ref g :: _) => if cmOk K C f g m then (fnAt K g).map fun fd => (.cm f, g, fd) else none
      | _ => none))
  | _ => none
def initK (K : PySem.W.Frag) (c : Nat) : Option (Addr × FuncData) := (clsAt K c).bind fun C => match PySem.W.findIn K (.ref C) "__init__" with
  | some (some (.ref f)) => if PySem.W.makesIn K C && PySem.W.isFn K (.ref f) && PySem.W.keepIn K (.ref C) then (fnAt K f).map fun fd => (f, fd) else none
  | _ => none
/-- the members are what the reading takes them for -/
def memOk (K : PySem.W.Frag) (c : Nat) (m : Str) : Bool := m == "__init__" || (match memK K c m with
  | some (.meth, _, fd) => !propT.contains m && !(m == "read") && (match psOf fd with
    | _ :: ps => msigT.lookup m == some ps
    | [] => false)
  | some (.prop _, _, fd) => propT.contains m && decide ((psOf fd).length = 1)
  | some (.cm _, _, fd) => m == "read" && (match psOf fd with
    | _ :: ps => msigT.lookup m == some ps
    | [] => false)
  | none => (clsAt K c).isNone)
def memB (K : PySem.W.Frag) : Bool := (List.range clsTab.length).all fun c => match memTab[c]? with
  | some l => l.all (memOk K c)
  | none => true
def clssK (K : PySem.W.Frag) : List (Str × Nat) := (clsNm.zip (List.range clsNm.length)).filter fun p => match clsAt K p.2 with
  | some C => PySem.W.keepIn K (.ref C) && !(p.1 == ("__debug__" : Str))
  | none => false
def isNm (x : Str) : Expr → Bool
  | .Name y _ => y == x
  | _ => false
def isKst (x : Str) : Expr → Bool
  | .Constant (.str y) _ _ => y == x
  | _ => false
/-- which cache a def looks into, by the def that it calls -/
def cacheOf (g : Str) : Option (Nat × Nat) := if g == "found_broken" then some (0, 0) else if g == "found_things" then some (1, 1) else if g == "found_with" then some (1, 2) else none
def cCache2 (cm : Nat × Nat) (q : Nat × List Str) (ps : List Str) (es : List Expr) (o1 o2 o3 : Str) (k1 k2 k3 : Expr) : Option Fn := match ps, es with
  | [o, t], [a, b] => if !(cm.2 == 1) && (o1 == o && o2 == o && o3 == o && !(o == t)) && (isNm t k1 && isNm t k2 && isNm t k3 && isNm o a && isNm t b) && decide (q.2.length = 2) then some ⟨2, 2, [.ret (.cache q.1 cm.1 cm.2 (.var 0) (.var 1))], 0⟩ else none
  | [o], [a] => if cm.2 == 1 && (o1 == o && o2 == o && o3 == o) && (isKst "things" k1 && isKst "things" k2 && isKst "things" k3 && isNm o a) && decide (q.2.length = 1) then some ⟨1, 1, [.ret (.cache q.1 cm.1 1 (.var 0) (.str thingsKey))], 0⟩ else none
  | _, _ => none
/-- "if k not in o.seen: o.seen[k] = g(o, k)", "return o.seen[k]" -/
def cCache (sig : List (Str × Nat × List Str)) (sc : Scope) (ps : List Str) (body : List Stmt) : Option Fn := match body with
  | [.If (.Compare k1 [.NotIn] [.Attribute (.Name o1 _) s1 _] _) [.Assign [.Subscript (.Attribute (.Name o2 _) s2 _) k2 _] (.Call (.Name g _) es [] _) _] [] _, .Return (some (.Subscript (.Attribute (.Name o3 _) s3 _) k3 _)) _] =>
    (cacheOf g).bind fun cm => (sig.lookup g).bind fun q => if sc.names.lookup g == some .globalImplicit && (s1 == "seen" && s2 == "seen" && s3 == "seen") then cCache2 cm q ps es o1 o2 o3 k1 k2 k3 else none
  | _ => none
/-- a def's text as data -/
def fnRd (K : PySem.W.Frag) (T : Txt) (jar : Bool) (fd : FuncData) : Option Fn := match cCache (sigK K T.names) fd.scope (psOf fd) (bodyOf fd) with
  | some f => some f
  | none => cFn (sigK K T.names) (conIds T) (clssK K) (kwsOf (sigK K T.names) T.kws) jar fd.params (bodyOf fd) fd.scope
def csOf (K : PySem.W.Frag) (T : Txt) (jar : Bool) (fd : FuncData) : Cs := { N := nOf fd, MV := mvOf (psOf fd) (bodyOf fd), sc := fd.scope, sig := sigK K T.names, consts := conIds T, clss := clssK K, kws := kwsOf (sigK K T.names) T.kws, jar }
/-- "check(p)", "self.f = p", "self.seen = {}" -/
def cInit (K : PySem.W.Frag) (T : Txt) (c : Nat) (fd : FuncData) : Option Fn := match clsTab[c]?, psOf fd, bodyOf fd with
  | some (_, [f], true), [sf, p], [.Expr (.Call f0 es0 kws0 cp) _, .Assign [.Attribute a1 f1 _] b1 _, .Assign [.Attribute a2 f2 _] (.Dict [] [] _) _] =>
    if isNm sf a1 && isNm sf a2 && isNm p b1 && f1 == f && f2 == "seen" && !(sf == p) && decide ((nOf fd).length = 2) && (nOf fd)[0]? == some sf && (nOf fd)[1]? == some p then (cE fuel (csOf K T false fd) (.Call f0 es0 kws0 cp)).map fun b => ⟨2, 1, [.expr b], 1⟩ else none
  | _, _, _ => none
/-- what classes are made of stands as is told -/
def initB (K : PySem.W.Frag) (c : Nat) : Bool := match initK K c with
  | some (_, fd) => (psOf fd).drop 1 == (initP[c]?).toList && decide ((psOf fd).length = 2)
  | none => (clsAt K c).isNone
def memRd (K : PySem.W.Frag) (T : Txt) (c : Nat) (m : Str) : Option Fn := if m == "__init__" then (initK K c).bind fun q => cInit K T c q.2 else (memK K c m).bind fun q => fnRd K T false q.2.2
def memsK (K : PySem.W.Frag) (T : Txt) : List (Nat × Fn) := (List.range clsTab.length).flatMap fun c => match memTab[c]? with
  | some l => (l.zip (List.range l.length)).filterMap fun p => (memRd K T c p.1).map fun f => (1000 + 50 * c + p.2, f)
  | none => []
def fnK (K : PySem.W.Frag) (T : Txt) (x : Str) : Option Fn := (entG K x).bind fun q => fnRd K T (T.jars.contains x) q.2
def fnsK (K : PySem.W.Frag) (T : Txt) : List (Nat × Fn) := ((T.names.zip (List.range T.names.length)).filterMap fun p => (fnK K T p.1).map fun f => (p.2, f)) ++ memsK K T
def consK (K : PySem.W.Frag) (T : Txt) : List (Nat × D) := (T.consts.zip (List.range T.consts.length)).filterMap fun p => (conK K p.1).map fun d => (p.2, d)
def pgK (K : PySem.W.Frag) (T : Txt) : Pg := ⟨fnsK K T, consK K T, reprD⟩
/-- names that any law of the set may have: the numbers of defs are the same in all of them -/
def TXG : Txt := ⟨(["is_bits", "place_of", "check_table", "check_row", "gate_told", "all_rows", "check_gate", "is_within", "stood", "check_places", "ones", "turned", "turned_if", "exchanged_last", "ring", "odd", "even", "given_for", "names", "named", "added", "unlike", "common", "is_thing", "check_thing", "is_broken", "lots_for", "split", "found_broken", "broken", "breaking", "keeps", "things_kept", "kept", "does_break", "breaks_at", "box_told", "check_gates", "kind_by", "found_things", "box_things", "is_kind", "check_kind", "things_of", "joined", "example", "is_part", "is_under", "next_above", "check_box", "lacking", "makes", "barred", "are_places", "is_step", "wrong_step", "check_circuit", "stepped", "behind", "is_spare", "built_gate", "built", "below", "alike", "parting_gate", "parting", "shared", "needless", "sets_of", "least_parts", "found_with", "things_with", "helpers", "helps", "gentle", "run", "placings", "all_steps", "unlike_steps", "meeting", "turned_back", "shortest", "sought", "product", "orders", "twice", "rows_with", "by_classes", "straight", "kept_products", "kept_fours", "of_sums", "of_kind", "check_wires", "members", "members_of", "check_seen", "is_pair", "known_rows", "classed", "straight_tables", "does_fit", "summed_tables", "lot_for", "fitting", "many", "outputs", "is_wish", "is_made", "holds", "first_broken", "is_circuit", "led", "does_build", "accepts_built", "accepts_gate", "accepts_thing", "accepts_boxes", "accepts", "certify", "certify_built", "certify_thing", "certify_alike", "number_in", "wish_in", "deed_in", "split_at", "gate_answer", "_law_jar", "_law_dip", "_law_pick", "_law_bases", "_law_odd", "_law_sorts", "_law_by_place", "_law_by_word", "_law_kept", "_law_right", "law", "_law_bitrows", "_law_chart", "_law_plus", "_law_weight", "_law_drift", "_law_calm", "_law_any", "_law_chart_slip", "_law_caught", "_law_shown", "_law_bent", "_law_give", "_law_again", "_law_stood", "_law_spots", "_law_fits", "_law_is_int", "_law_places_slip", "_law_spin", "_law_words", "_law_both", "_law_all_things", "_law_breaks", "_law_lots", "_law_holds", "_law_size", "_law_known", "_law_made", "_law_columns", "_law_page", "_law_crate", "_law_box_of", "_law_slip", "_law_is_page", "_law_orders", "_law_sort_by", "_law_closed", "_law_under", "_law_pair_right", "_law_word", "_law_charts", "_law_flat", "_law_flat_kind", "_law_by_four", "_law_divisor", "_law_other_kind", "_law_line", "_law_flipped", "_law_answers", "_law_source", "_law_take", "_law_some_of", "_law_all_rows", "_law_ruled", "_law_library", "_law_any_table", "_law_straight", "_law_counting", "_law_drawn_table", "_law_meet", "_law_pairs_keep", "_law_keeps", "_law_box_kept", "_law_tables", "_law_lacks", "_law_own_made", "_law_index", "_law_behind", "_law_places", "_law_steps", "_law_built", "_law_there_and_back", "_law_sets", "_law_shared", "_law_due", "_law_names", "_law_with", "_law_gentle", "_law_moves", "_law_reached", "_law_all_tables", "_law_outcome", "_law_value", "_law_met", "_law_of_gates", "_law_of_boxes", "_law_is_places", "_law_is_step", "_law_bent_step", "_law_is_number", "_law_is_bits", "_law_run_right", "_law_built_right", "_law_sought_right", "_law_orders_of", "_law_levels", "_law_small_table", "_law_goal_right", "_law_just", "_law_every_table", "_law_kinds", "_law_every_straight", "_law_count", "_law_orders_by", "_law_twice", "_law_spans", "_law_kinds_right", "_law_glimpse", "_law_wires_right", "_law_adds_up", "_law_told_right", "_law_parts_right", "_law_is_row", "_law_is_pair", "_law_wrong", "_law_well", "_law_one_of", "_law_rows_of", "_law_sum", "_law_far", "_law_pair_things", "_law_is_affine", "_law_kept_by", "_law_line_of", "_law_lib", "_law_tags", "_law_lines", "_law_gate", "_law_text", "_law_box_text", "_law_needs", "_law_kind_by", "_law_is_made", "_law_wish", "_law_broken", "_law_deed", "_law_ended", "_law_same", "_law_act", "_law_shows", "_law_done", "_law_bench", "_law_at", "_law_kept_in", "_law_index_right", "_law_put_right", "_law_back_right", "_law_is_gate_text", "_law_is_wish", "_law_all_hold", "_law_led_on", "_law_rows_in", "_law_trial_right", "_law_trial_pages", "_law_mixed", "_law_all_done", "_law_led", "_law_is_paper", "_law_odd_papers", "_law_many", "_law_is_odd", "_law_rows_for", "_law_are_rows", "_law_bent_rows", "_law_gate_right", "_law_thing_right", "_law_near_gates", "_law_claims", "_law_bent_text", "_law_none", "_law_either_right", "_law_wired", "_law_turned", "_law_box", "_law_boxes_right", "_law_judged", "_law_spare_due", "_law_listed", "_law_members", "_law_helps_right", "_law_line_deed", "_law_board_shows", "_law_is_wish_line", "_law_is_line", "_law_drawn_line", "_law_respelled", "_law_thing", "_law_same_deed", "_law_questions_right", "_law_by_hand", "_law_box_right", "_law_all_shown"] : List String).map PySem.Str.ofString, (["MOST_WIRES", "MOST_GATES", "MOST_SPARE", "MOST_STEPS", "MOST_SOUGHT", "MOST_SEEN", "BITS", "SIZES", "NAMES", "WIRES", "DIVIDED", "THINGS", "MANY", "HEAD", "NEEDS", "KINDS", "EXAMPLES", "KEPT", "common_gates", "common_kinds", "SWAP", "MOST_ALL", "PARTS", "MOST_BITS", "WORDS", "is_spare_circuits", "is_spare_checkparts", "FIGURES", "MOST_FIGURES"] : List String).map PySem.Str.ofString, ([("accepts", 0, ["certificate", "claim"]), ("alike", 0, ["other", "one"]), ("barred", 0, ["gate", "box"]), ("below", 0, ["other", "one"]), ("breaking", 0, ["thing", "gate"]), ("breaks_at", 0, ["rows", "thing", "gate"]), ("built", 0, ["circuit", "spare", "wires", "box"]), ("certify", 0, ["gate", "box"]), ("certify_alike", 0, ["other", "one"]), ("certify_built", 0, ["most", "spare", "gate", "box"]), ("certify_thing", 0, ["thing", "box"]), ("common", 0, ["other", "kind"]), ("example", 0, ["kind"]), ("fitting", 0, ["seen", "box"]), ("gentle", 0, ["gate", "box"]), ("gentle", 1, ["gate"]), ("helps", 0, ["gate", "box"]), ("is_under", 0, ["other", "kind"]), ("joined", 0, ["other", "kind"]), ("keeps", 0, ["thing", "gate"]), ("kept", 0, ["gate"]), ("least_parts", 0, ["box"]), ("makes", 0, ["gate", "box"]), ("many", 0, ["seen", "box"]), ("members", 0, ["wires", "box"]), ("members_of", 0, ["kind", "wires"]), ("members_of", 0, ["wires", "kind"]), ("named", 0, ["name"]), ("needless", 0, ["box"]), ("next_above", 0, ["kind"]), ("outputs", 0, ["row", "seen", "box"]), ("parting", 0, ["other", "one"]), ("run", 0, ["circuit", "box", "row"]), ("run", 0, ["circuit", "row", "box"]), ("sought", 0, ["most", "spare", "gate", "box"]), ("things_of", 0, ["kind"])] : List (String × Nat × List String)).map fun p => (PySem.Str.ofString p.1, p.2.1, p.2.2.map PySem.Str.ofString), (["_law_jar", "_law_well", "_law_source"] : List String).map PySem.Str.ofString⟩
/-- a def's number -/
def numOf (x : Str) : Nat := TXG.names.findIdx (· == x)
/-- what a cache of an object may hold at a key: what the def answers that looks for it -/
def CFK (K : PySem.W.Frag) (d : D) (z : List Nat) (r : D) : Prop := match d with
  | .ins 0 _ => ∃ k o, run (pgK K TXG) k (numOf "found_broken") [d, .str z] [] = .ok (r, o) []
  | .ins 1 _ => if z = txt "things" then ∃ k o, run (pgK K TXG) k (numOf "found_things") [d] [] = .ok (r, o) [] else ∃ k o, run (pgK K TXG) k (numOf "found_with") [d, .str z] [] = .ok (r, o) []
  | _ => False
end MP
end

section
set_option linter.all false
set_option Elab.async false
set_option maxRecDepth 100000
namespace MP
open PySem PySem.Spec PyProof.Rows L2

theorem sOf_len (l : List Nat) : (sOf l).length = l.length := by simp [sOf, PySem.Str.length]
theorem sOf_cps (l : List Nat) : (sOf l).cps.toList = l := by simp [sOf]
theorem sOf_inj {a b : List Nat} (h : sOf a = sOf b) : a = b := by
  have := congrArg (fun s : PySem.Str => s.cps.toList) h
  simpa [sOf] using this
theorem sOf_of (x : PySem.Str) : sOf x.cps.toList = x := by cases x; simp [sOf]
theorem szLine_eq : szLine = sizeLine := by rw [sizeLine_eq]; rfl

/-- the known heap: what never changes; the mutable objects by number -/
structure Jt where
  I : Addr → Option HO
  ρ : List Addr
  /-- the dicts that are caches, with the object that they are the cache of -/
  C : Addr → Option D

def KT (K : PySem.W.Frag) (a : Addr) (xs : List V) : Prop :=
  ∃ (o : Obj) (its : Array Value) (n : Nat), K.lookup a = some o ∧ o.cls = .type "tuple" ∧ o.dict = none ∧ o.data = .seq its n ∧ its.size ≤ sizeLine ∧ Vals xs its.toList
def keyD : Key → D
  | .inl i => .int i
  | .inr s => .str s.cps.toList
/-- a dict of the text's own with text keys -/
def KDc (K : PySem.W.Frag) (w : World) (a : Addr) (kvs : List (Key × V)) : Prop :=
  ∃ es n, KDict K w a es n ∧ kvs ≠ [] ∧ (∀ kv ∈ kvs, ∃ z, kv.1 = .inr z) ∧ ∀ z : PySem.Str, ∃ r, PySem.W.nsIn K a z = some r ∧ RelO (valV kvs (.inr z)) r
variable (K : PySem.W.Frag) (w : World)
def JT (J : Jt) (a : Addr) (xs : List V) : Prop := (∃ o : Obj, J.I a = some (.frz o (.tup xs)) ∧ o.dict = none) ∨ KT K a xs
def JL (J : Jt) (a : Addr) (xs : List V) : Prop := J.I a = some (.lst xs)
/-- a list of the text's own -/
def KL (K : PySem.W.Frag) (a : Addr) (xs : List V) : Prop :=
  ∃ (o : Obj) (its : Array Value) (n : Nat), K.lookup a = some o ∧ o.cls = .type "list" ∧ o.dict = none ∧ o.data = .seq its n ∧ its.size ≤ sizeLine ∧ Vals xs its.toList
def JS (J : Jt) (a : Addr) (ns : List Int) : Prop := (∃ o, J.I a = some (.frz o (.lst (ns.map V.int)))) ∨ KL K a (ns.map V.int)
def JD (J : Jt) (a : Addr) (kvs : List (Key × V)) : Prop := J.I a = some (.dK kvs) ∨ KDc K w a kvs
mutual
inductive Rep (K : PySem.W.Frag) (w : World) (J : Jt) : V → D → Prop
  | non : Rep K w J .non .non
  | bl (b : Bool) : Rep K w J (.bl b) (.bl b)
  | int (i : Int) : Rep K w J (.int i) (.int i)
  | str (s : List Nat) (h : s.length ≤ szLine) (hc : ∀ c ∈ s, c < 1114112) : Rep K w J (.str (sOf s)) (.str s)
  | tup {a : Addr} {xs : List V} {ds : List D} (h : JT K J a xs) (r : RepL K w J xs ds) : Rep K w J (.ref a) (.tup ds)
  | unp {a : Addr} {xs : List V} {ds : List D} (h : J.I a = some (.tup xs)) (r : RepL K w J xs ds) : Rep K w J (.ref a) (.unp ds)
  | lst {a : Addr} {xs : List V} {ds : List D} (h : JL J a xs) (r : RepL K w J xs ds) : Rep K w J (.ref a) (.lst ds)
  | dct {a : Addr} {kvs : List (Key × V)} {ks vs : List D} (h : JD K w J a kvs) (nd : (kvs.map (·.1)).Nodup) (hk : ks = kvs.map fun p => keyD p.1) (r : RepL K w J (kvs.map (·.2)) vs) : Rep K w J (.ref a) (.dct ks vs)
  | scr {a : Addr} {ns : List Int} (h : JS K J a ns) : Rep K w J (.ref a) (.scr ns)
  | mtb {a : Addr} {n : Nat} (h : J.ρ[n]? = some a) : Rep K w J (.ref a) (.mtb n)
  | cls {C : Addr} {c : Nat} {nm : Str} (hc : clsNm[c]? = some nm) (hn : PySem.W.nsIn K mainGlobals nm = some (some (.ref C))) : Rep K w J (.ref C) (.cls c)
  | ins {a C dx s : Addr} {c : Nat} {nm : Str} {fn : List Str} {vs : List V} {ds : List D} (hc : clsTab[c]? = some (nm, fn, true)) (hn : PySem.W.nsIn K mainGlobals nm = some (some (.ref C)))
      (h : J.I a = some (.ins C dx ((fn ++ [("seen" : Str)]).zip (vs ++ [.ref s])))) (hl : vs.length = fn.length) (hs : J.C s = some (.ins c ds)) (r : RepL K w J vs ds) : Rep K w J (.ref a) (.ins c ds)
inductive RepL (K : PySem.W.Frag) (w : World) (J : Jt) : List V → List D → Prop
  | nil : RepL K w J [] []
  | cons {v : V} {d : D} {vs : List V} {ds : List D} (h : Rep K w J v d) (t : RepL K w J vs ds) : RepL K w J (v :: vs) (d :: ds)
end
structure Ext (J J' : Jt) : Prop where
  I : ∀ a o, J.I a = some o → J'.I a = some o
  ρ : ∀ (n : Nat) (a : Addr), J.ρ[n]? = some a → J'.ρ[n]? = some a
  C : ∀ a d, J.C a = some d → J'.C a = some d
theorem Ext.refl (J : Jt) : Ext J J := ⟨fun _ _ h => h, fun _ _ h => h, fun _ _ h => h⟩
theorem Ext.trans {J J' J'' : Jt} (a : Ext J J') (b : Ext J' J'') : Ext J J'' := ⟨fun x o h => b.I x o (a.I x o h), fun n x h => b.ρ n x (a.ρ n x h), fun x d h => b.C x d (a.C x d h)⟩
variable {K w}
section
variable {J J' : Jt} (e : Ext J J')
include e
theorem JT.ext {a : Addr} {xs : List V} (h : JT K J a xs) : JT K J' a xs := h.imp (fun ⟨o, h, z⟩ => ⟨o, e.I _ _ h, z⟩) id
theorem JL.ext {a : Addr} {xs : List V} (h : JL J a xs) : JL J' a xs := e.I _ _ h
theorem JS.ext {a : Addr} {xs : List Int} (h : JS K J a xs) : JS K J' a xs := h.imp (fun ⟨o, h⟩ => ⟨o, e.I _ _ h⟩) id
theorem JD.ext {a : Addr} {kvs : List (Key × V)} (h : JD K w J a kvs) : JD K w J' a kvs := h.imp (e.I _ _) id
mutual
theorem Rep.ext : ∀ {d : D} {v : V}, Rep K w J v d → Rep K w J' v d
  | .non, _, h => by cases h; exact .non
  | .bl _, _, h => by cases h; exact .bl _
  | .int _, _, h => by cases h; exact .int _
  | .str _, _, h => by cases h; exact .str _ (by assumption) (by assumption)
  | .tup ds, _, h => by cases h with | tup h r => exact .tup (h.ext e) (RepL.ext r)
  | .lst ds, _, h => by cases h with | lst h r => exact .lst (h.ext e) (RepL.ext r)
  | .dct ks vs, _, h => by cases h with | dct h nd hk r => exact .dct (h.ext e) nd hk (RepL.ext r)
  | .mtb _, _, h => by cases h with | mtb h => exact .mtb (e.ρ _ _ h)
  | .scr _, _, h => by cases h with | scr h => exact .scr (h.ext e)
  | .cls _, _, h => by cases h with | cls h1 h2 => exact .cls h1 h2
  | .err _ _, _, h => nomatch h
  | .lam _ _, _, h => nomatch h
  | .unp ds, _, h => by cases h with | unp h r => exact .unp (e.I _ _ h) (RepL.ext r)
  | .ins _ _, _, h => by cases h with | ins hc hn h hl hs r => exact .ins hc hn (e.I _ _ h) hl (e.C _ _ hs) (RepL.ext r)
theorem RepL.ext : ∀ {ds : List D} {vs : List V}, RepL K w J vs ds → RepL K w J' vs ds
  | [], _, h => by cases h; exact .nil
  | d :: ds, _, h => by cases h with | cons h t => exact .cons (Rep.ext h) (RepL.ext t)
end
end
theorem RepL.len {J : Jt} : ∀ {ds : List D} {vs : List V}, RepL K w J vs ds → vs.length = ds.length
  | [], _, h => by cases h; rfl
  | d :: ds, _, h => by cases h with | cons h t => simp [RepL.len t]
theorem RepL.app {J : Jt} : ∀ {ds : List D} {vs : List V} {ds' : List D} {vs' : List V}, RepL K w J vs ds → RepL K w J vs' ds' → RepL K w J (vs ++ vs') (ds ++ ds')
  | [], _, _, _, h, h' => by cases h; exact h'
  | d :: ds, _, _, _, h, h' => by cases h with | cons h t => exact .cons h (RepL.app t h')
theorem RepL.one {J : Jt} {v : V} {d : D} (h : Rep K w J v d) : RepL K w J [v] [d] := .cons h .nil
theorem RepL.get {J : Jt} : ∀ {ds : List D} {vs : List V} {i : Nat} {d : D}, RepL K w J vs ds → ds[i]? = some d → ∃ v, vs[i]? = some v ∧ Rep K w J v d
  | [], _, _, _, h, e => by simp at e
  | d :: ds, _, 0, _, h, e => by cases h with | cons h t => simp at e; subst e; exact ⟨_, rfl, h⟩
  | d :: ds, _, i + 1, _, h, e => by cases h with | cons h t => simpa using RepL.get t (by simpa using e)
theorem RepL.set {J : Jt} {v : V} {d : D} (r : Rep K w J v d) : ∀ {ds : List D} {vs : List V} (i : Nat), RepL K w J vs ds → RepL K w J (vs.set i v) (ds.set i d)
  | [], _, _, h => by cases h; exact .nil
  | _ :: _, _, 0, h => by cases h with | cons h t => exact .cons r t
  | _ :: _, _, i + 1, h => by cases h with | cons h t => exact .cons h (RepL.set r i t)
theorem RepL.take {J : Jt} : ∀ {ds : List D} {vs : List V} (n : Nat), RepL K w J vs ds → RepL K w J (vs.take n) (ds.take n)
  | _, _, 0, h => .nil
  | [], _, _ + 1, h => by cases h; exact .nil
  | _ :: _, _, n + 1, h => by cases h with | cons h t => exact .cons h (RepL.take n t)
theorem RepL.drop {J : Jt} : ∀ {ds : List D} {vs : List V} (n : Nat), RepL K w J vs ds → RepL K w J (vs.drop n) (ds.drop n)
  | _, _, 0, h => h
  | [], _, _ + 1, h => by cases h; exact .nil
  | _ :: _, _, n + 1, h => by cases h with | cons h t => exact RepL.drop n t
theorem RepL.eraseIdx {J : Jt} : ∀ {ds : List D} {vs : List V} (n : Nat), RepL K w J vs ds → RepL K w J (vs.eraseIdx n) (ds.eraseIdx n)
  | [], _, _, h => by cases h; exact .nil
  | _ :: _, _, 0, h => by cases h with | cons h t => exact t
  | _ :: _, _, n + 1, h => by cases h with | cons h t => exact .cons h (RepL.eraseIdx n t)
theorem RepL.insertIdx {J : Jt} {v : V} {d : D} (r : Rep K w J v d) : ∀ {ds : List D} {vs : List V} (n : Nat), RepL K w J vs ds → RepL K w J (vs.insertIdx n v) (ds.insertIdx n d)
  | _, _, 0, h => by simpa using RepL.cons r h
  | [], _, n + 1, h => by cases h; simpa using RepL.nil
  | _ :: _, _, n + 1, h => by cases h with | cons h t => simpa using RepL.cons h (RepL.insertIdx r n t)
theorem RepL.reverse {J : Jt} : ∀ {ds : List D} {vs : List V}, RepL K w J vs ds → RepL K w J vs.reverse ds.reverse
  | [], _, h => by cases h; exact .nil
  | _ :: _, _, h => by cases h with | cons h t => simpa using RepL.app (RepL.reverse t) (RepL.one h)
theorem RepL.repl {J : Jt} {ds : List D} {vs : List V} (h : RepL K w J vs ds) : ∀ n : Nat, RepL K w J (List.replicate n vs).flatten (List.replicate n ds).flatten
  | 0 => .nil
  | n + 1 => by simpa [List.replicate_succ] using RepL.app h (RepL.repl h n)
theorem RepL.ofStrs {J : Jt} : ∀ {ws : List (List Nat)}, (∀ s ∈ ws, s.length ≤ szLine ∧ ∀ c ∈ s, c < 1114112) → RepL K w J (ws.map fun s => V.str (sOf s)) (ws.map .str)
  | [], _ => .nil
  | s :: ws, h => .cons (.str s (h s (by simp)).1 (h s (by simp)).2) (RepL.ofStrs fun s hs => h s (by simp [hs]))
theorem RepL.ofInts {J : Jt} : ∀ (ns : List Int), RepL K w J (ns.map V.int) (ns.map .int)
  | [] => .nil
  | i :: ns => .cons (.int i) (RepL.ofInts ns)
theorem mapO_some {α β : Type} {f : α → Option β} : ∀ {l : List α} {r : List β}, mapO f l = some r → l.length = r.length ∧ ∀ i : Nat, ∀ a, l[i]? = some a → ∃ b, f a = some b ∧ r[i]? = some b
  | [], r, h => by simp [mapO] at h; subst h; exact ⟨rfl, by simp⟩
  | a :: l, r, h => by
    unfold mapO at h
    cases e : f a with
    | none => simp [e] at h
    | some b =>
      cases e2 : mapO f l with
      | none => simp [e, e2] at h
      | some bs =>
        simp [e, e2] at h; subst h
        obtain ⟨h1, h2⟩ := mapO_some e2
        refine ⟨by simp [h1], fun i x hx => ?_⟩
        cases i with
        | zero => simp at hx; subst hx; exact ⟨b, e, rfl⟩
        | succ i => simpa using h2 i x (by simpa using hx)
theorem mapO_strs : ∀ {l : List D} {r : List (List Nat)}, mapO unStr l = some r → l = r.map .str
  | [], r, h => by simp [mapO] at h; subst h; rfl
  | a :: l, r, h => by
    unfold mapO at h
    cases a <;> simp [unStr] at h
    cases e2 : mapO unStr l with
    | none => simp [e2] at h
    | some bs => simp [e2] at h; subst h; simp [← mapO_strs e2]
theorem mapO_ints : ∀ {l : List D} {r : List Int}, mapO unInt l = some r → l = r.map .int
  | [], r, h => by simp [mapO] at h; subst h; rfl
  | a :: l, r, h => by
    unfold mapO at h
    cases a <;> simp [unInt] at h
    cases e2 : mapO unInt l with
    | none => simp [e2] at h
    | some bs => simp [e2] at h; subst h; simp [← mapO_ints e2]
theorem mapO_bls : ∀ {l : List D} {r : List Bool}, mapO unBl l = some r → l = r.map .bl
  | [], r, h => by simp [mapO] at h; subst h; rfl
  | a :: l, r, h => by
    unfold mapO at h
    cases a <;> simp [unBl] at h
    cases e2 : mapO unBl l with
    | none => simp [e2] at h
    | some bs => simp [e2] at h; subst h; simp [← mapO_bls e2]
theorem RepL.strs {J : Jt} : ∀ {ws : List (List Nat)} {vs : List V}, RepL K w J vs (ws.map .str) → vs = ws.map (fun s => V.str (sOf s)) ∧ ∀ s ∈ ws, s.length ≤ szLine ∧ ∀ c ∈ s, c < 1114112
  | [], _, h => by cases h; exact ⟨rfl, by simp⟩
  | s :: ws, _, h => by
    cases h with
    | cons h t =>
      cases h with
      | str _ h1 h2 =>
        obtain ⟨e, q⟩ := RepL.strs t
        refine ⟨by simp [e], fun x hx => ?_⟩
        rcases List.mem_cons.mp hx with rfl | hx
        · exact ⟨h1, h2⟩
        · exact q x hx
theorem RepL.ints {J : Jt} : ∀ {ns : List Int} {vs : List V}, RepL K w J vs (ns.map .int) → vs = ns.map V.int
  | [], _, h => by cases h; rfl
  | s :: ws, _, h => by
    cases h with
    | cons h t => cases h; simp [RepL.ints t]
theorem RepL.bls {J : Jt} : ∀ {ns : List Bool} {vs : List V}, RepL K w J vs (ns.map .bl) → vs = ns.map V.bl
  | [], _, h => by cases h; rfl
  | s :: ws, _, h => by
    cases h with
    | cons h t => cases h; simp [RepL.bls t]

/-! ### objects of the frame's own -/
inductive ORep (K : PySem.W.Frag) (w : World) (J : Jt) : HO → D → Prop
  | lst {xs : List V} {ds : List D} (r : RepL K w J xs ds) : ORep K w J (.lst xs) (.lst ds)
  | dct {kvs : List (Key × V)} {ks vs : List D} (nd : (kvs.map (·.1)).Nodup) (hk : ks = kvs.map fun p => keyD p.1) (r : RepL K w J (kvs.map (·.2)) vs) : ORep K w J (.dK kvs) (.dct ks vs)
theorem ORep.ext {J J' : Jt} (e : Ext J J') {o : HO} {d : D} (h : ORep K w J o d) : ORep K w J' o d := by
  cases h with
  | lst r => exact .lst (r.ext e)
  | dct nd hk r => exact .dct nd hk (r.ext e)
/-- an object that is nobody else's -/
def Jt.free (J : Jt) (a : Addr) : Prop := a ∉ J.ρ ∧ J.C a = none
def Own (K : PySem.W.Frag) (w : World) (J : Jt) (H : Hp) (a : Addr) (d : D) : Prop := ∃ o, H a = some o ∧ J.I a = none ∧ J.free a ∧ ORep K w J o d
/-- what stands in a cache is what it is the cache of -/
structure CacheOk (K : PySem.W.Frag) (w : World) (J : Jt) (kvs : List (Key × V)) (d : D) : Prop where
  nd : (kvs.map (·.1)).Nodup
  all : ∀ kv ∈ kvs, ∃ (z : List Nat) (r : D), kv.1 = .inr (sOf z) ∧ z ∈ cacheKeys ∧ CFK K d z r ∧ noMt r = true ∧ Rep K w J kv.2 r
theorem CacheOk.ext {J J' : Jt} (e : Ext J J') {kvs : List (Key × V)} {d : D} (h : CacheOk K w J kvs d) : CacheOk K w J' kvs d :=
  ⟨h.nd, fun kv hk => let ⟨z, r, h1, h2, h3, h4, h5⟩ := h.all kv hk; ⟨z, r, h1, h2, h3, h4, h5.ext e⟩⟩
def moRep (K : PySem.W.Frag) (w : World) (J : Jt) : MO → HO → Prop
  | .lst ds, o => ∃ xs, o = .lst xs ∧ RepL K w J xs ds
/-- the known heap is held -/
structure Hold (K : PySem.W.Frag) (w : World) (J : Jt) (M : Mem) (H : Hp) : Prop where
  I : ∀ a o, J.I a = some o → H a = some o
  len : M.length = J.ρ.length
  m : ∀ (n : Nat) (mo : MO), M[n]? = some mo → ∃ a o, J.ρ[n]? = some a ∧ H a = some o ∧ J.I a = none ∧ moRep K w J mo o
  nd : J.ρ.Nodup
  c : ∀ (s : Addr) (d : D), J.C s = some d → ∃ kvs, H s = some (.dK kvs) ∧ J.I s = none ∧ s ∉ J.ρ ∧ CacheOk K w J kvs d
/-- from one heap to a later one -/
structure Go (J : Jt) (H : Hp) (J' : Jt) (H' : Hp) : Prop where
  ext : Ext J J'
  newI : ∀ a o, J'.I a = some o → J.I a = some o ∨ H a = none
  newR : ∀ a, a ∈ J'.ρ → a ∈ J.ρ ∨ H a = none
  newC : ∀ a d, J'.C a = some d → J.C a = some d ∨ H a = none
  keep : ∀ a o, H a = some o → J.free a → H' a = some o
  keepR : ∀ a, (H a).isSome → (H' a).isSome
theorem Go.refl (J : Jt) (H : Hp) : Go J H J H := ⟨.refl J, fun _ _ h => .inl h, fun _ h => .inl h, fun _ _ h => .inl h, fun _ _ h _ => h, fun _ h => h⟩
theorem none_of_not {H : Hp} {a : Addr} (h : ¬ (H a).isSome = true) : H a = none := by
  cases e : H a with
  | none => rfl
  | some o => simp [e] at h
theorem Go.trans {J J1 J2 : Jt} {H H1 H2 : Hp} (a : Go J H J1 H1) (b : Go J1 H1 J2 H2) : Go J H J2 H2 := by
  have back : ∀ x, H1 x = none → H x = none := fun x hx => none_of_not fun h => by
    have := a.keepR x h
    rw [hx] at this; simp at this
  refine ⟨a.ext.trans b.ext, fun x o h => ?_, fun x h => ?_, fun x d h => ?_, fun x o h hn => ?_, fun x h => b.keepR x (a.keepR x h)⟩
  · rcases b.newI x o h with h | h
    · exact a.newI x o h
    · exact .inr (back x h)
  · rcases b.newR x h with h | h
    · exact a.newR x h
    · exact .inr (back x h)
  · rcases b.newC x d h with h | h
    · exact a.newC x d h
    · exact .inr (back x h)
  · refine b.keep x o (a.keep x o h hn) ⟨fun hm => ?_, ?_⟩
    · rcases a.newR x hm with h' | h'
      · exact hn.1 h'
      · rw [h] at h'; cases h'
    · cases hc : J1.C x with
      | none => rfl
      | some d =>
        rcases a.newC x d hc with h' | h'
        · rw [hn.2] at h'; cases h'
        · rw [h] at h'; cases h'
theorem Go.free {J J' : Jt} {H H' : Hp} {a : Addr} {o : HO} (g : Go J H J' H') (h : H a = some o) (hf : J.free a) : J'.free a := by
  refine ⟨fun hm => ?_, ?_⟩
  · rcases g.newR a hm with h' | h'
    · exact hf.1 h'
    · rw [h] at h'; cases h'
  · cases hc : J'.C a with
    | none => rfl
    | some d =>
      rcases g.newC a d hc with h' | h'
      · rw [hf.2] at h'; cases h'
      · rw [h] at h'; cases h'
theorem Own.go {J J' : Jt} {H H' : Hp} {a : Addr} {d : D} (h : Own K w J H a d) (g : Go J H J' H') : Own K w J' H' a d := by
  obtain ⟨o, h1, h2, h3, h4⟩ := h
  refine ⟨o, g.keep a o h1 h3, ?_, g.free h1 h3, h4.ext g.ext⟩
  cases e : J'.I a with
  | none => rfl
  | some o' =>
    rcases g.newI a o' e with h | h
    · rw [h2] at h; cases h
    · rw [h1] at h; cases h
/-- what comes back: shared, or a fresh object of the one who asked -/
def RepO (K : PySem.W.Frag) (w : World) (J' : Jt) (H H' : Hp) (v : V) (d : D) (own : Bool) : Prop :=
  match own with
  | false => Rep K w J' v d
  | true => ∃ a, v = .ref a ∧ H a = none ∧ Own K w J' H' a d
/-- an operand: shared, or an own object that is only looked at -/
def RepB (K : PySem.W.Frag) (w : World) (J : Jt) (H : Hp) (v : V) (d : D) : Prop := Rep K w J v d ∨ ∃ a, v = .ref a ∧ Own K w J H a d
theorem RepB.go {J J' : Jt} {H H' : Hp} {v : V} {d : D} (h : RepB K w J H v d) (g : Go J H J' H') : RepB K w J' H' v d := h.imp (fun h => h.ext g.ext) fun ⟨a, e, h⟩ => ⟨a, e, h.go g⟩
def Jt.add (J : Jt) (a : Addr) (o : HO) : Jt := ⟨fun b => if b = a then some o else J.I b, J.ρ, J.C⟩
theorem Jt.add_same {J : Jt} {a : Addr} {o : HO} : (J.add a o).I a = some o := by simp [Jt.add]
theorem Jt.add_ext {J : Jt} {a : Addr} {o : HO} (h : J.I a = none) : Ext J (J.add a o) := ⟨fun b u e => by
  show (if b = a then some o else J.I b) = some u
  rw [if_neg (by rintro rfl; rw [h] at e; cases e)]; exact e, fun _ _ h => h, fun _ _ h => h⟩
theorem moRep.ext {J J' : Jt} (e : Ext J J') {mo : MO} {o : HO} (h : moRep K w J mo o) : moRep K w J' mo o := by
  cases mo with
  | lst ds => obtain ⟨xs, h1, h2⟩ := h; exact ⟨xs, h1, h2.ext e⟩
/-- a further object is known -/
theorem Hold.add {J : Jt} {M : Mem} {H : Hp} {a : Addr} {o : HO} (h : Hold K w J M H) (ha : H a = some o) (hn : J.I a = none) (hr : J.free a) : Hold K w (J.add a o) M H := by
  have e := Jt.add_ext (o := o) hn
  refine ⟨fun b u hb => ?_, h.len, fun n mo hm => ?_, h.nd, fun s d hs => ?_⟩
  · have hb : (if b = a then some o else J.I b) = some u := hb
    by_cases hba : b = a
    · subst hba; rw [if_pos rfl] at hb; rw [ha]; exact hb
    · rw [if_neg hba] at hb; exact h.I b u hb
  · obtain ⟨x, u, h1, h2, h3, h4⟩ := h.m n mo hm
    refine ⟨x, u, h1, h2, ?_, h4.ext e⟩
    show (if x = a then some o else J.I x) = none
    rw [if_neg (by rintro rfl; exact hr.1 (List.mem_of_getElem? h1))]; exact h3
  · obtain ⟨kvs, h1, h2, h3, h4⟩ := h.c s d hs
    refine ⟨kvs, h1, ?_, h3, h4.ext e⟩
    show (if s = a then some o else J.I s) = none
    rw [if_neg (by rintro rfl; have hs : J.C s = some d := hs; rw [hr.2] at hs; cases hs)]; exact h2
theorem Go.add {J J' : Jt} {H H' : Hp} {a : Addr} {o : HO} (g : Go J H J' H') (hH : H a = none) (hn : J'.I a = none) : Go J H (J'.add a o) H' := by
  refine ⟨g.ext.trans (Jt.add_ext hn), fun b u hb => ?_, g.newR, g.newC, g.keep, g.keepR⟩
  have hb : (if b = a then some o else J'.I b) = some u := hb
  by_cases hba : b = a
  · subst hba; exact .inr hH
  · rw [if_neg hba] at hb; exact g.newI b u hb
theorem ORep.rep {J : Jt} {a : Addr} {o : HO} {d : D} (h : ORep K w J o d) (hn : J.I a = none) : Rep K w (J.add a o) (.ref a) d := by
  have e := Jt.add_ext (o := o) hn
  cases h with
  | lst r => exact .lst Jt.add_same (r.ext e)
  | dct nd hk r => exact .dct (.inl Jt.add_same) nd hk (r.ext e)
/-- what came back is shared -/
theorem RepO.share {J J' : Jt} {M : Mem} {H H' : Hp} {v : V} {d : D} {own : Bool} (h : RepO K w J' H H' v d own) (g : Go J H J' H') (hd : Hold K w J' M H') :
    ∃ J'', Go J H J'' H' ∧ Hold K w J'' M H' ∧ Rep K w J'' v d := by
  cases own with
  | false => exact ⟨J', g, hd, h⟩
  | true =>
    obtain ⟨a, rfl, hn, o, h1, h2, h3, h4⟩ := h
    exact ⟨J'.add a o, g.add hn h2, hd.add h1 h2 h3, h4.rep h2⟩
theorem RepO.B {J' : Jt} {H H' : Hp} {v : V} {d : D} {own : Bool} (h : RepO K w J' H H' v d own) : RepB K w J' H' v d := by
  cases own with
  | false => exact .inl h
  | true => obtain ⟨a, e, _, h⟩ := h; exact .inr ⟨a, e, h⟩

/-! ### slots -/
structure Slots (K : PySem.W.Frag) (w : World) (J : Jt) (H : Hp) (σ : L2.St) (e : Env) : Prop where
  len : σ.length = e.length
  sh : ∀ (i : Nat) (d : D), e[i]? = some (some (d, false)) → ∃ v, σ[i]? = some (some v) ∧ Rep K w J v d
  own : ∀ (i : Nat) (d : D), e[i]? = some (some (d, true)) → ∃ a, σ[i]? = some (some (V.ref a)) ∧ Own K w J H a d
  apart : ∀ (i j : Nat) (d d' : D) (a : Addr), e[i]? = some (some (d, true)) → e[j]? = some (some (d', true)) → σ[i]? = some (some (V.ref a)) → σ[j]? = some (some (V.ref a)) → i = j
theorem Slots.go {J J' : Jt} {H H' : Hp} {σ : L2.St} {e : Env} (h : Slots K w J H σ e) (g : Go J H J' H') : Slots K w J' H' σ e :=
  ⟨h.len, fun i d he => let ⟨v, h1, h2⟩ := h.sh i d he; ⟨v, h1, h2.ext g.ext⟩, fun i d he => let ⟨a, h1, h2⟩ := h.own i d he; ⟨a, h1, h2.go g⟩, h.apart⟩
end MP
end

section
set_option linter.all false
set_option Elab.async false
set_option maxRecDepth 100000
set_option maxHeartbeats 2000000
namespace MP
open PySem PySem.Spec PyProof.Rows L2
/-! ### plain data as the library's -/
mutual
theorem eqv_eqD : ∀ (n : Nat) (d e : D), shp n d = true → shp n e = true → PyData.eqv (toP d) (toP e) = eqD d e
  | n, .non, e, _, he => by cases e <;> first | rfl | (cases n <;> simp [shp] at he)
  | n, .bl _, e, _, he => by cases e <;> first | rfl | (cases n <;> simp [shp] at he)
  | n, .int _, e, _, he => by cases e <;> first | rfl | (cases n <;> simp [shp] at he)
  | n, .str a, e, _, he => by
    cases e <;> first
      | rfl
      | (cases n <;> simp [shp] at he; done)
      | skip
    rename_i b
    simp only [toP, PyData.eqv, eqD]
    by_cases q : a = b
    · subst q; simp
    · have : sOf a ≠ sOf b := fun z => q (sOf_inj z)
      have q2 : (a == b) = false := by simpa using q
      have q3 : (sOf a == sOf b) = false := by simpa using this
      rw [q2, q3]
  | 0, .tup _, _, hd, _ => by simp [shp] at hd
  | n + 1, .tup a, e, hd, he => by
    cases e <;> first
      | rfl
      | (simp [shp] at he; done)
      | skip
    simp only [shp] at hd he
    simp only [toP, PyData.eqv, eqD]
    exact eqv_eqDs n a _ hd he
  | 0, .lst _, _, hd, _ => by simp [shp] at hd
  | n + 1, .lst a, e, hd, he => by
    cases e <;> first
      | rfl
      | (simp [shp] at he; done)
      | skip
    simp only [shp] at hd he
    simp only [toP, PyData.eqv, eqD]
    exact eqv_eqDs n a _ hd he
  | n, .dct _ _, _, hd, _ => by cases n <;> simp [shp] at hd
  | n, .ins _ _, _, hd, _ => by cases n <;> simp [shp] at hd
  | n, .cls _, _, hd, _ => by cases n <;> simp [shp] at hd
  | n, .err _ _, _, hd, _ => by cases n <;> simp [shp] at hd
  | n, .lam _ _, _, hd, _ => by cases n <;> simp [shp] at hd
  | n, .unp _, _, hd, _ => by cases n <;> simp [shp] at hd
  | n, .mtb _, _, hd, _ => by cases n <;> simp [shp] at hd
  | n, .scr _, _, hd, _ => by cases n <;> simp [shp] at hd
theorem eqv_eqDs : ∀ (n : Nat) (d e : List D), d.all (shp n) = true → e.all (shp n) = true → PyData.eqvAll (toPs d) (toPs e) = eqDs d e
  | n, [], [], _, _ => by simp [toPs, PyData.eqvAll, eqDs]
  | n, [], _ :: _, _, _ => by simp [toPs, PyData.eqvAll, eqDs]
  | n, _ :: _, [], _, _ => by simp [toPs, PyData.eqvAll, eqDs]
  | n, d :: ds, e :: es, hd, he => by
    simp only [List.all_cons, Bool.and_eq_true] at hd he
    simp only [toPs, PyData.eqvAll, eqDs, eqv_eqD n d e hd.1 he.1, eqv_eqDs n ds es hd.2 he.2]
end
mutual
theorem shp_depth : ∀ (n : Nat) (d : D), shp n d = true → (toP d).depth ≤ n
  | n, .non, _ => Nat.zero_le _
  | n, .bl _, _ => Nat.zero_le _
  | n, .int _, _ => Nat.zero_le _
  | n, .str _, _ => Nat.zero_le _
  | 0, .tup _, h => by simp [shp] at h
  | 0, .lst _, h => by simp [shp] at h
  | n + 1, .tup a, h => by simp only [shp] at h; simp only [toP, PyData.depth]; exact Nat.succ_le_succ (shp_depths n a h)
  | n + 1, .lst a, h => by simp only [shp] at h; simp only [toP, PyData.depth]; exact Nat.succ_le_succ (shp_depths n a h)
  | n, .dct _ _, hd => by cases n <;> simp [shp] at hd
  | n, .ins _ _, hd => by cases n <;> simp [shp] at hd
  | n, .cls _, hd => by cases n <;> simp [shp] at hd
  | n, .err _ _, hd => by cases n <;> simp [shp] at hd
  | n, .lam _ _, hd => by cases n <;> simp [shp] at hd
  | n, .unp _, hd => by cases n <;> simp [shp] at hd
  | n, .mtb _, hd => by cases n <;> simp [shp] at hd
  | n, .scr _, hd => by cases n <;> simp [shp] at hd
theorem shp_depths : ∀ (n : Nat) (d : List D), d.all (shp n) = true → PyData.depthAll (toPs d) ≤ n
  | n, [], _ => Nat.zero_le _
  | n, d :: ds, h => by
    simp only [List.all_cons, Bool.and_eq_true] at h
    simp only [toPs, PyData.depthAll]
    exact Nat.max_le.mpr ⟨shp_depth n d h.1, shp_depths n ds h.2⟩
end
theorem shp_mono {d : D} : ∀ {m n : Nat}, m ≤ n → shp m d = true → shp n d = true := by
  intro m n h
  induction n generalizing m d with
  | zero => have : m = 0 := by omega
            subst this; exact id
  | succ n ih =>
    intro hs
    cases d <;> first | rfl | (cases m <;> simp [shp] at hs; done) | skip
    all_goals
      cases m with
      | zero => simp [shp] at hs
      | succ m =>
        simp only [shp, List.all_eq_true] at hs ⊢
        exact fun x hx => ih (Nat.le_of_succ_le_succ h) (hs x hx)
section
variable {K : PySem.W.Frag} {w : World} {J : Jt} {M : Mem} {H : Hp}
theorem Hold.sqL (h : Hold K w J M H) {a : Addr} {xs : List V} (j : JL J a xs) : SqL K H a xs := .inl (.inl (h.I _ _ j))
theorem Hold.scr (h : Hold K w J M H) {a : Addr} {ns : List Int} (j : JS K J a ns) : SqL K H a (ns.map V.int) := j.elim (fun ⟨o, j⟩ => .inl (.inr ⟨o, h.I _ _ j⟩)) fun j => .inr j
theorem Hold.sqT (h : Hold K w J M H) {a : Addr} {xs : List V} (j : JT K J a xs) : SqT K H a xs := j.elim (fun ⟨o, j, _⟩ => .inl (.inr ⟨o, h.I _ _ j⟩)) fun ⟨o, its, n, h1, h2, _, h3⟩ => .inr ⟨o, its, n, h1, h2, h3⟩
mutual
theorem Rep.canLay : ∀ {n : Nat} {d : D} {v : V}, Rep K w J v d → shp n d = true → (toP d).canLay0 = true
  | n, .non, _, _, _ => rfl
  | n, .bl _, _, _, _ => rfl
  | n, .int _, _, _, _ => rfl
  | n, .str _, _, h, _ => by
    cases h with
    | str s h1 h2 =>
      simp only [toP, PyData.canLay0, PyData.strOk, sOf]
      simpa using h2
  | 0, .tup _, _, _, hd => by simp [shp] at hd
  | 0, .lst _, _, _, hd => by simp [shp] at hd
  | n + 1, .tup a, _, h, hd => by
    simp only [shp] at hd
    cases h with
    | tup j r => simp only [toP, PyData.canLay0]; exact RepL.canLay r hd
  | n + 1, .lst a, _, h, hd => by
    simp only [shp] at hd
    cases h with
    | lst j r => simp only [toP, PyData.canLay0]; exact RepL.canLay r hd
  | n, .dct _ _, _, _, hd => by cases n <;> simp [shp] at hd
  | n, .ins _ _, _, _, hd => by cases n <;> simp [shp] at hd
  | n, .cls _, _, _, hd => by cases n <;> simp [shp] at hd
  | n, .err _ _, _, _, hd => by cases n <;> simp [shp] at hd
  | n, .lam _ _, _, _, hd => by cases n <;> simp [shp] at hd
  | n, .unp _, _, _, hd => by cases n <;> simp [shp] at hd
  | n, .mtb _, _, _, hd => by cases n <;> simp [shp] at hd
  | n, .scr _, _, _, hd => by cases n <;> simp [shp] at hd
theorem RepL.canLay : ∀ {n : Nat} {d : List D} {v : List V}, RepL K w J v d → d.all (shp n) = true → PyData.canLayAll0 (toPs d) = true
  | n, [], _, _, _ => rfl
  | n, d :: ds, _, h, hd => by
    simp only [List.all_cons, Bool.and_eq_true] at hd
    cases h with
    | cons h t => simp only [toPs, PyData.canLayAll0, Bool.and_eq_true]; exact ⟨Rep.canLay h hd.1, RepL.canLay t hd.2⟩
end
mutual
theorem Rep.dp (hd : Hold K w J M H) : ∀ {n : Nat} {d : D} {v : V}, Rep K w J v d → shp n d = true → Dp K H v (toP d)
  | n, .non, _, h, _ => by cases h; exact .non
  | n, .bl _, _, h, _ => by cases h; exact .bl _
  | n, .int _, _, h, _ => by cases h; exact .int _
  | n, .str _, _, h, _ => by cases h; exact .str _
  | 0, .tup _, _, _, hs => by simp [shp] at hs
  | 0, .lst _, _, _, hs => by simp [shp] at hs
  | n + 1, .tup a, _, h, hs => by
    simp only [shp] at hs
    cases h with
    | tup j r => exact .tup (hd.sqT j) (RepL.dp hd r hs)
  | n + 1, .lst a, _, h, hs => by
    simp only [shp] at hs
    cases h with
    | lst j r => exact .lst (hd.sqL j) (RepL.dp hd r hs)
  | n, .dct _ _, _, _, hs => by cases n <;> simp [shp] at hs
  | n, .ins _ _, _, _, hs => by cases n <;> simp [shp] at hs
  | n, .cls _, _, _, hs => by cases n <;> simp [shp] at hs
  | n, .err _ _, _, _, hs => by cases n <;> simp [shp] at hs
  | n, .lam _ _, _, _, hs => by cases n <;> simp [shp] at hs
  | n, .unp _, _, _, hs => by cases n <;> simp [shp] at hs
  | n, .mtb _, _, _, hs => by cases n <;> simp [shp] at hs
  | n, .scr _, _, _, hs => by cases n <;> simp [shp] at hs
theorem RepL.dp (hd : Hold K w J M H) : ∀ {n : Nat} {d : List D} {v : List V}, RepL K w J v d → d.all (shp n) = true → DpAll K H v (toPs d)
  | n, [], _, h, _ => by cases h; exact .nil
  | n, d :: ds, _, h, hs => by
    simp only [List.all_cons, Bool.and_eq_true] at hs
    cases h with
    | cons h t => exact .cons (Rep.dp hd h hs.1) (RepL.dp hd t hs.2)
end
theorem RepB.dp (hd : Hold K w J M H) {n : Nat} {d : D} {v : V} (h : RepB K w J H v d) (hs : shp n d = true) (h16 : n ≤ 16) : Dp K H v (toP d) ∧ SeqAt.shaped (toP d) = true := by
  rcases h with h | ⟨a, rfl, o, h1, _, _, h4⟩
  · refine ⟨h.dp hd hs, ?_⟩
    simp only [SeqAt.shaped, Bool.and_eq_true, decide_eq_true_eq]
    exact ⟨h.canLay hs, Nat.le_trans (shp_depth n d hs) (by omega)⟩
  · cases h4 with
    | lst r =>
      cases n with
      | zero => simp [shp] at hs
      | succ n =>
        have hs' := hs
        simp only [shp] at hs'
        refine ⟨.lst (.inl (.inl h1)) (r.dp hd hs'), ?_⟩
        simp only [SeqAt.shaped, Bool.and_eq_true, decide_eq_true_eq]
        exact ⟨by simp only [toP, PyData.canLay0]; exact r.canLay hs', Nat.le_trans (shp_depth (n + 1) _ hs) (by omega)⟩
    | dct nd hk r => cases n <;> simp [shp] at hs
end
end MP
end

section
set_option linter.all false
set_option Elab.async false
set_option maxRecDepth 100000
set_option maxHeartbeats 2000000
namespace MP
open PySem PySem.Spec PyProof.Rows L2
/-! tuples, laid and known as the objects that they are -/
def tupO (its : List Value) : Obj := { cls := .type "tuple", data := .seq its.toArray }
/-- what is wanted of a tuple that is laid -/
def NewT (H : Hp) (xs : List V) (Q : VK) : Prop := ∀ (p : Addr) (o : Obj), o.dict = none → H p = none → Q (.ref p) (upd H p (.frz o (.tup xs)))
section
variable {X : Cx} {pins : List (Addr × Obj)} {σ : L2.St} {H : Hp} {s : Shared}
theorem lay_tup (I : Inv X pins σ H s) {xs : List V} {its : List Value} (r : Vals xs its) (hz : xs.length ≤ sizeLine) {Q : VK} (q : NewT H xs Q) :
    EP X pins σ Q (.ref s.heap.objs.size) { s with heap := s.heap.push (tupO its) } := by
  have hn : H s.heap.objs.size = none := I.hok.fresh (Nat.le_refl _)
  refine ⟨.ref s.heap.objs.size, _, ?_, rfl, q _ (tupO its) rfl hn⟩
  refine I.laid (t' := s.toks) (fun b o e => Heap.get?_push_of_some _ e) (Nat.le_refl _) ?_
  exact ⟨Heap.get?_push_size s.heap rfl, hz, its, r, ⟨_, Heap.get?_push_size s.heap rfl, rfl, 0, rfl⟩⟩
def tTupF (t : TA) : TE := fun σ H Q => t σ H fun xs H1 => xs.length ≤ sizeLine ∧ NewT H1 xs Q
theorem pe_tupF {es : List Expr} {j : Nat} {pos : Pos} {t : TA} (h : PA X es t) : PE X (.Tuple es j pos) (tTupF t) := by
  refine ⟨fun pins s σ H Q I hq => wpAny_Tuple_spliced (thn (h.run pos pins s σ H _ I hq) fun us s1 ⟨xs, H1, I1, r, z, q⟩ => ⟨by rw [← r.length]; exact z, ?_⟩)⟩
  exact lay_tup I1 r z q
theorem call_tupF : CallR X (.type "tuple") (fun xs H Q => ∃ p ys, xs = [.ref p] ∧ ((SqL X.K H p ys ∧ NewT H ys Q) ∨ (SqT X.K H p ys ∧ Q (.ref p) H))) := by
  intro pins s σ H xs us Q I r ⟨p, ys, e, h⟩
  subst e
  cases r with
  | cons rx rt =>
    cases rt; cases rx
    rcases h with ⟨hq, q⟩ | ⟨hq, q⟩
    · obtain ⟨its, r', pl, hz⟩ := I.list hq
      have hl := r'.length
      refine call_tuple_list pl.isList (fun h' kp => ?_) (by rw [List.size_toArray]; omega)
      exact lay_tup (I.kept (t' := s.toks) kp) r' hz q
    · obtain ⟨its, _, pl, _⟩ := I.tuple hq
      exact call_tuple_same pl ⟨.ref p, H, I, rfl, q⟩
def rCatF (K : PySem.W.Frag) : R2 := fun x y H Q => ∃ a b xs ys, x = .ref a ∧ y = .ref b ∧ SqT K H a xs ∧ SqT K H b ys ∧ xs.length + ys.length ≤ sizeLine ∧
  (xs = [] → Q (.ref b) H) ∧ (xs ≠ [] → ys = [] → Q (.ref a) H) ∧ (xs ≠ [] → ys ≠ [] → NewT H (xs ++ ys) Q)
theorem op_catF : OpR X (binaryOp .Add) (rCatF X.K) := by
  intro pins s σ H x y v u Q I rx ry ⟨a, b, xs, ys, e1, e2, ha, hb, hz, q0, q1, q2⟩
  subst e1 e2
  cases rx; cases ry
  obtain ⟨its, r1, p1, _⟩ := I.tuple ha
  obtain ⟨its2, r2, p2, _⟩ := I.tuple hb
  by_cases hx : xs = []
  · subst hx
    cases r1
    exact cat_tup0 p1 p2 ⟨.ref b, H, I, rfl, q0 rfl⟩
  · have h1 := r1.length
    have h2 := r2.length
    refine HT.cat_tup p1 p2 (fun z => hx (r1.nil_iff.mp z)) (fun z => ⟨.ref a, H, I, rfl, q1 hx (r2.nil_iff.mp z)⟩) (fun z => ?_) (by omega)
    exact lay_tup I (r1.append r2) (by rw [List.length_append]; exact hz) (q2 hx fun w => z (r2.nil_iff.mpr w))
def rSlF (K : PySem.W.Frag) : V → Option Int → Option Int → Hp → VK → Prop := fun x lo hi H Q => ∃ a xs, x = .ref a ∧ SqT K H a xs ∧
  (HT.sIx xs.length 0 lo = 0 ∧ HT.sIx xs.length xs.length hi = xs.length → Q (.ref a) H) ∧ (¬ (HT.sIx xs.length 0 lo = 0 ∧ HT.sIx xs.length xs.length hi = xs.length) → NewT H (cutV xs lo hi) Q)
theorem sl_tupF : SlR X (rSlF X.K) := by
  intro pins s σ H x v vl vu lo hi sl Q I rx hs pl pu ⟨a, xs, e, hx, q1, q2⟩
  subst e
  cases rx
  obtain ⟨its, r, ht, hz⟩ := I.tuple hx
  have hlen : its.toArray.size = xs.length := by rw [List.size_toArray]; exact r.length.symm
  refine ⟨"tuple", _, PyProof.Rows.slot_tuple_getitem.lookup, ht.typeIs, ?_⟩
  by_cases hw : HT.sIx xs.length 0 lo = 0 ∧ HT.sIx xs.length xs.length hi = xs.length
  · exact getItem_tuple_whole ht hs pl pu (by rw [hlen]; exact hw) ⟨.ref a, H, I, rfl, q1 hw⟩
  · refine HT.getItem_tuple_cut ht hs pl pu (by rw [hlen]; exact hw) ?_ (by rw [hlen]; exact hz)
    rw [hlen]
    exact lay_tup I ((r.drop (HT.sIx xs.length 0 lo)).take (HT.sIx xs.length xs.length hi - HT.sIx xs.length 0 lo)) (Nat.le_trans (cutV_length xs lo hi) hz) (q2 hw)
theorem call_divmodF : CallR X (.builtin "divmod") (fun xs H Q => ∃ i j, xs = [.int i, .int j] ∧ CDiv i j ∧ NewT H [.int (i / j), .int (i % j)] Q) := by
  intro pins s σ H xs us Q I r ⟨i, j, e, ⟨h1, h2⟩, q⟩
  subst e
  cases r with
  | cons r1 rt => cases rt with
    | cons r2 rt =>
      cases rt
      obtain ⟨t, rfl⟩ := r1
      obtain ⟨t', rfl⟩ := r2
      refine divmod_int (by omega) ?_ (.inl (PyProof.noPylong_small (by omega)))
      rw [Int.fdiv_eq_ediv_of_nonneg i (by omega), Int.fmod_eq_emod_of_nonneg i (by omega)]
      have hn : H s.heap.objs.size = none := I.hok.fresh (Nat.le_refl _)
      have hz : [V.int (i / j), V.int (i % j)].length ≤ sizeLine := by show 2 ≤ sizeLine; decide
      refine ⟨.ref s.heap.objs.size, _, ?_, rfl, q _ (tupO [.int (i / j) s.toks, .int (i % j) (s.toks + 1)]) rfl hn⟩
      refine I.laid (fun b o e => Heap.get?_push_of_some _ e) (Nat.le_refl _) ?_
      exact ⟨Heap.get?_push_size s.heap rfl, hz, _, .cons ⟨_, rfl⟩ (.cons ⟨_, rfl⟩ .nil), ⟨_, Heap.get?_push_size s.heap rfl, rfl, 0, rfl⟩⟩
end
end MP
end

section
set_option linter.all false
set_option Elab.async false
set_option maxRecDepth 100000
set_option maxHeartbeats 2000000
namespace MP
open PySem PySem.Spec PyProof.Rows L2
section
variable {K : PySem.W.Frag} {w : World} {J J' : Jt} {M : Mem} {H H' : Hp} {p : Addr} {o : HO}
theorem Hold.rho (h : Hold K w J M H) {a : Addr} (ha : a ∈ J.ρ) : ∃ o, H a = some o ∧ J.I a = none := by
  obtain ⟨n, hn, e⟩ := List.mem_iff_getElem.mp ha
  have hm : n < M.length := by rw [h.len]; exact hn
  obtain ⟨a', o, h1, h2, h3, _⟩ := h.m n M[n] (List.getElem?_eq_getElem hm)
  rw [List.getElem?_eq_getElem hn, e] at h1
  cases h1
  exact ⟨o, h2, h3⟩
theorem Hold.fresh (h : Hold K w J M H) (hp : H p = none) : J.I p = none ∧ J.free p := by
  refine ⟨?_, fun hm => ?_, ?_⟩
  · cases e : J.I p with
    | none => rfl
    | some u => rw [h.I p u e] at hp; cases hp
  · obtain ⟨u, e, _⟩ := h.rho hm
    rw [e] at hp; cases hp
  · cases e : J.C p with
    | none => rfl
    | some d =>
      obtain ⟨kvs, h1, _⟩ := h.c p d e
      rw [h1] at hp; cases hp
theorem upd_of {b : Addr} {u : HO} (hp : H p = none) (h : H b = some u) : upd H p o b = some u := by
  rw [upd_ne (by rintro rfl; rw [h] at hp; cases hp)]; exact h
theorem Hold.new (h : Hold K w J M H) (hp : H p = none) : Hold K w J M (upd H p o) :=
  ⟨fun a u e => upd_of hp (h.I a u e), h.len, fun n mo e => let ⟨a, u, h1, h2, h3, h4⟩ := h.m n mo e; ⟨a, u, h1, upd_of hp h2, h3, h4⟩, h.nd, fun s d e => let ⟨kvs, h1, h2, h3, h4⟩ := h.c s d e; ⟨kvs, upd_of hp h1, h2, h3, h4⟩⟩
theorem go_new (J : Jt) (o : HO) (hp : H p = none) : Go J H J (upd H p o) := by
  refine ⟨.refl J, fun _ _ h => .inl h, fun _ h => .inl h, fun _ _ h => .inl h, fun a u h _ => upd_of hp h, fun a h => ?_⟩
  obtain ⟨u, e⟩ := Option.isSome_iff_exists.mp h
  rw [upd_of hp e]; rfl
/-- a fresh object of the one who asked -/
theorem new_own (h : Hold K w J M H) (hp : H p = none) {d : D} (r : ORep K w J o d) : Go J H J (upd H p o) ∧ Hold K w J M (upd H p o) ∧ RepO K w J H (upd H p o) (.ref p) d true :=
  ⟨go_new J o hp, h.new hp, p, rfl, hp, o, upd_same, (h.fresh hp).1, (h.fresh hp).2, r⟩
theorem new_tup (h : Hold K w J M H) (hp : H p = none) {xs : List V} {ds : List D} (r : RepL K w J xs ds) {ob : Obj} (hd : ob.dict = none) :
    Go J H (J.add p (.frz ob (.tup xs))) (upd H p (.frz ob (.tup xs))) ∧ Hold K w (J.add p (.frz ob (.tup xs))) M (upd H p (.frz ob (.tup xs))) ∧ RepO K w (J.add p (.frz ob (.tup xs))) H (upd H p (.frz ob (.tup xs))) (.ref p) (.tup ds) false :=
  ⟨(go_new J _ hp).add hp (h.fresh hp).1, (h.new hp).add upd_same (h.fresh hp).1 (h.fresh hp).2, .tup (.inl ⟨ob, Jt.add_same, hd⟩) (r.ext (Jt.add_ext (h.fresh hp).1))⟩
end
/-- what is wanted of an operation's answer -/
def Ans (X : Cx) (J : Jt) (M : Mem) (H : Hp) (d : D) (own : Bool) (Q : VK) : Prop :=
  ∀ v H' J', Go J H J' H' → Hold X.K X.w J' M H' → RepO X.K X.w J' H H' v d own → Q v H'
section
variable {X : Cx} {J : Jt} {M : Mem} {H : Hp} {Q : VK}
theorem Ans.sh {v : V} {d : D} (q : Ans X J M H d false Q) (h : Hold X.K X.w J M H) (r : Rep X.K X.w J v d) : Q v H := q v H J (.refl J H) h r
theorem Ans.lst {xs : List V} {ds : List D} (q : Ans X J M H (.lst ds) true Q) (h : Hold X.K X.w J M H) (r : RepL X.K X.w J xs ds) : ∀ p, H p = none → Q (.ref p) (upd H p (.lst xs)) := fun p hp =>
  let ⟨a, b, c⟩ := new_own h hp (.lst r); q _ _ J a b c
theorem Ans.tup {xs : List V} {ds : List D} (q : Ans X J M H (.tup ds) false Q) (h : Hold X.K X.w J M H) (r : RepL X.K X.w J xs ds) : NewT H xs Q := fun p o ho hp =>
  let ⟨a, b, c⟩ := new_tup h hp r ho; q _ _ _ a b c

def rBin (X : Cx) (o : BOp) : R2 := fun x y H Q => ∃ J M d1 d2 d, Hold X.K X.w J M H ∧ Rep X.K X.w J x d1 ∧ Rep X.K X.w J y d2 ∧ binO o d1 d2 = some d ∧ Ans X J M H d (freshBin o d) Q
theorem log2_mulOk {i j : Int} (h : mulOk i j = true) : IntMulOk i j := by
  have h' : i.natAbs.log2 + j.natAbs.log2 < 4000000 := by simpa [mulOk] using h
  unfold IntMulOk
  intro hc
  simp only [Bool.and_eq_true] at hc
  have h3 := hc.2
  simp only [Builtin.Int.intTooBig, decide_eq_true_eq] at h3
  have b1 : ∀ i : Int, Builtin.Int.intBits i ≤ i.natAbs.log2 + 1 := by
    intro i
    unfold Builtin.Int.intBits
    split <;> omega
  have := b1 i
  have := b1 j
  have e27 : bitsLine = 134217728 := by decide
  rw [e27] at h3
  have h4 : ((Builtin.Int.intBits i : Nat) : Int) + ((Builtin.Int.intBits j : Nat) : Int) > ((134217728 : Nat) : Int) := h3
  omega
theorem sOf_app (a b : List Nat) : sOf a ++ sOf b = sOf (a ++ b) := by
  show PySem.Str.append _ _ = _
  simp [PySem.Str.append, sOf]
theorem opBin {op : Operator} {o : BOp} (ho : cOp op = some o) : OpR X (binaryOp op) (rBin X o) := by
  intro pins s σ H x y v u Q I rx ry h
  obtain ⟨J, M, d1, d2, d, hd, r1, r2, e, q⟩ := h
  cases op <;> simp only [cOp, Option.some.injEq, reduceCtorEq] at ho <;> subst ho
  · -- add
    cases d1 <;> cases d2 <;> simp only [binO, reduceCtorEq, Option.some.injEq] at e
    · subst e; cases r1; cases r2
      exact op_add pins s σ H _ _ v u Q I rx ry ⟨_, _, rfl, rfl, q.sh hd (.int _)⟩
    · cases r1 with
      | str a ha hca => cases r2 with
        | str b hb hcb =>
          split at e
          · rename_i hl
            cases e
            refine op_add_str pins s σ H _ _ v u Q I rx ry ⟨_, _, rfl, rfl, by rw [sOf_len, sOf_len, ← szLine_eq]; exact hl, ?_⟩
            rw [sOf_app]
            refine q.sh hd (.str _ (by rw [List.length_append]; exact hl) fun c hc => ?_)
            rcases List.mem_append.mp hc with hc | hc
            · exact hca c hc
            · exact hcb c hc
          · cases e
    · cases r1 with
      | tup j1 l1 => cases r2 with
        | tup j2 l2 =>
          split at e
          · rename_i hl
            cases e
            refine op_catF pins s σ H _ _ v u Q I rx ry ⟨_, _, _, _, rfl, rfl, hd.sqT j1, hd.sqT j2, by rw [l1.len, l2.len, ← szLine_eq]; exact hl, fun z => ?_, fun _ z => ?_, fun _ _ => q.tup hd (l1.app l2)⟩
            · subst z; cases l1
              exact q.sh hd (.tup j2 l2)
            · subst z; cases l2
              rename_i as _ _ _
              rw [List.append_nil] at q
              exact q.sh hd (.tup j1 l1)
          · cases e
    · cases r1 with
      | lst j1 l1 => cases r2 with
        | lst j2 l2 =>
          split at e
          · rename_i hl
            cases e
            exact op_cat pins s σ H _ _ v u Q I rx ry ⟨_, _, _, _, rfl, rfl, hd.I _ _ j1, hd.I _ _ j2, by rw [l1.len, l2.len, ← szLine_eq]; exact hl, q.lst hd (l1.app l2)⟩
          · cases e
  · -- sub
    cases d1 <;> cases d2 <;> simp only [binO, reduceCtorEq, Option.some.injEq] at e
    subst e; cases r1; cases r2
    exact op_sub pins s σ H _ _ v u Q I rx ry ⟨_, _, rfl, rfl, q.sh hd (.int _)⟩
  · -- mul
    cases d1 <;> cases d2 <;> simp only [binO, reduceCtorEq, Option.some.injEq] at e
    · split at e
      · rename_i hm
        cases e; cases r1; cases r2
        obtain ⟨t, rfl⟩ := rx
        obtain ⟨t', rfl⟩ := ry
        exact mul_int ⟨.int _, H, I.tok _, ⟨_, rfl⟩, q.sh hd (.int _)⟩ (log2_mulOk hm)
      · cases e
    · split at e
      · rename_i hm
        cases e; cases r2
        simp only [Bool.and_eq_true, decide_eq_true_eq] at hm
        rename_i a k
        cases r1 with
        | str _ ha hca =>
          obtain ⟨t, rfl⟩ := rx
          obtain ⟨t', rfl⟩ := ry
          have hz : (List.replicate k.toNat a).flatten.length ≤ szLine := by
            rw [List.length_flatten, List.map_replicate, List.sum_replicate_nat, Nat.mul_comm]; exact hm.2
          have hQ : Q (.str (sOf (List.replicate k.toNat a).flatten)) H := q.sh hd (.str _ hz fun c hc => by
            obtain ⟨l, h1, h2⟩ := List.mem_flatten.mp hc
            rw [(List.mem_replicate.mp h1).2] at h2
            exact hca c h2)
          have hk := hm.1
          have hl : a.length * k.toNat ≤ szLine := hm.2
          have hsz : szLine = 16777216 := rfl
          by_cases k1 : k < 1
          · have k0 : k.toNat = 0 := by omega
            rw [k0] at hQ
            exact PySem.P.mul_str_none k1 (by omega) ⟨.str PySem.Str.empty, H, I.tok _, ⟨_, rfl⟩, hQ⟩
          · refine PySem.P.mul_str ?_ (fun _ _ => ?_) (fun _ _ => ?_) ?_
            · rw [decide_eq_false (by omega : ¬ k < -(2 ^ 63 : Int)), decide_eq_false (by omega : ¬ k ≥ 2 ^ 63)]; rfl
            · rw [sOf_len]
              intro hbig
              have h1 : (a.length : Int) ≤ 16777216 := by
                have : a.length * 1 ≤ a.length * k.toNat := Nat.mul_le_mul_left _ (by omega)
                omega
              have h2 : (16777216 : Int) ≤ (2 ^ 63 - 1) / k := by
                rw [Int.le_ediv_iff_mul_le (by omega)]
                omega
              omega
            · rw [sOf_len]
              show decide (_ > sizeLine) = false
              rw [← szLine_eq]
              exact decide_eq_false (by omega)
            · rw [if_neg k1]
              by_cases k2 : (k == 1 || (sOf a).length == 0) = true
              · rw [if_pos k2]
                simp only [Bool.or_eq_true, beq_iff_eq] at k2
                have e1 : (List.replicate k.toNat a).flatten = a := by
                  rcases k2 with k2 | k2
                  · subst k2; simp
                  · rw [sOf_len] at k2
                    have : a = [] := List.length_eq_zero_iff.mp k2
                    subst this; simp
                rw [e1] at hQ
                exact ⟨.str (sOf a), H, I, ⟨_, rfl⟩, hQ⟩
              · rw [if_neg k2]
                have e2 : ∀ (n : Nat) (b : Array Nat), List.foldl (fun x1 x2 => x1 ++ x2) b (List.replicate n (sOf a).cps) = b ++ (List.replicate n a).flatten.toArray := by
                  intro n
                  induction n with
                  | zero => intro b; simp
                  | succ n ih =>
                    intro b
                    rw [List.replicate_succ, List.foldl_cons, ih]
                    simp [sOf, List.replicate_succ]
                rw [e2]
                refine ⟨by
                  simp only [PySem.Str.length, Array.empty_append, List.size_toArray]
                  rw [← szLine_eq]; exact hz, .str (sOf (List.replicate k.toNat a).flatten), H, I.tok _, ⟨s.toks, ?_⟩, hQ⟩
                simp [sOf]
      · cases e
    · split at e
      · rename_i hm
        cases e; cases r2
        simp only [Bool.and_eq_true, decide_eq_true_eq] at hm
        cases r1 with
        | lst j1 l1 =>
          exact op_rep pins s σ H _ _ v u Q I rx ry ⟨_, _, _, rfl, rfl, hd.I _ _ j1, by omega, by omega, by rw [l1.len, ← szLine_eq]; exact hm.2, q.lst hd (l1.repl _)⟩
      · cases e
  · -- mod
    cases d1 <;> cases d2 <;> simp only [binO, reduceCtorEq, Option.some.injEq] at e
    split at e
    · rename_i hm
      cases e; cases r1; cases r2
      exact op_mod pins s σ H _ _ v u Q I rx ry ⟨_, _, rfl, rfl, hm, q.sh hd (.int _)⟩
    · cases e
  · -- pow
    cases d1 <;> cases d2 <;> simp only [binO, reduceCtorEq, Option.some.injEq] at e
    split at e
    · rename_i hm
      cases e; cases r1; cases r2
      simp only [Bool.and_eq_true, decide_eq_true_eq] at hm
      have h64 : (1000 : Nat) < 2 ^ 64 := by decide
      exact op_pow pins s σ H _ _ v u Q I rx ry ⟨_, _, rfl, rfl, ⟨hm.1.1, by omega, by omega⟩, q.sh hd (.int _)⟩
    · cases e
  · -- fdiv
    cases d1 <;> cases d2 <;> simp only [binO, reduceCtorEq, Option.some.injEq] at e
    split at e
    · rename_i hm
      cases e; cases r1; cases r2
      simp only [Bool.and_eq_true, decide_eq_true_eq] at hm
      exact op_fdiv pins s σ H _ _ v u Q I rx ry ⟨_, _, rfl, rfl, hm, q.sh hd (.int _)⟩
    · cases e

/-! ### comparisons -/
def rCmp (X : Cx) (o : COp) : R2 := fun x y H Q => ∃ J M d1 d2 c, Hold X.K X.w J M H ∧ RepB X.K X.w J H x d1 ∧ RepB X.K X.w J H y d2 ∧ cmpO o d1 d2 = some c ∧ Q (.bl c) H
theorem RepB.int {K : PySem.W.Frag} {w : World} {x : V} {i : Int} (r : RepB K w J H x (.int i)) : x = .int i := by
  rcases r with r | ⟨a, rfl, o, _, _, _, r⟩
  · cases r; rfl
  · cases r
theorem RepB.bl {K : PySem.W.Frag} {w : World} {x : V} {i : Bool} (r : RepB K w J H x (.bl i)) : x = .bl i := by
  rcases r with r | ⟨a, rfl, o, _, _, _, r⟩
  · cases r; rfl
  · cases r
theorem RepB.non {K : PySem.W.Frag} {w : World} {x : V} (r : RepB K w J H x .non) : x = .non := by
  rcases r with r | ⟨a, rfl, o, _, _, _, r⟩
  · cases r; rfl
  · cases r
theorem RepB.notnon {K : PySem.W.Frag} {w : World} {x : V} {d : D} (r : RepB K w J H x d) : decide (x = .non) = (match d with | .non => true | _ => false) := by
  rcases r with r | ⟨a, rfl, o, _, _, _, r⟩
  · cases r <;> rfl
  · cases r <;> rfl
theorem RepB.str {K : PySem.W.Frag} {w : World} {x : V} {s : List Nat} (r : RepB K w J H x (.str s)) : x = .str (sOf s) ∧ s.length ≤ szLine ∧ ∀ c ∈ s, c < 1114112 := by
  rcases r with r | ⟨a, rfl, o, _, _, _, r⟩
  · cases r; exact ⟨rfl, by assumption, by assumption⟩
  · cases r
theorem RepB.lst {w : World} {K : PySem.W.Frag} {x : V} {ds : List D} (r : RepB K w J H x (.lst ds)) (hd : Hold K w J M H) : ∃ a xs, x = .ref a ∧ H a = some (.lst xs) ∧ RepL K w J xs ds := by
  rcases r with r | ⟨a, rfl, o, h, _, _, r⟩
  · cases r with | lst j r => exact ⟨_, _, rfl, hd.I _ _ j, r⟩
  · cases r with | lst r => exact ⟨a, _, rfl, h, r⟩
theorem RepB.tup {w : World} {K : PySem.W.Frag} {x : V} {ds : List D} (r : RepB K w J H x (.tup ds)) (hd : Hold K w J M H) : ∃ a xs, x = .ref a ∧ SqT K H a xs ∧ RepL K w J xs ds := by
  rcases r with r | ⟨a, rfl, o, h, _, _, r⟩
  · cases r with | tup j r => exact ⟨_, _, rfl, hd.sqT j, r⟩
  · cases r
/-- a dict: of the heap, of the text -/
def DRep (K : PySem.W.Frag) (w : World) (J : Jt) (H : Hp) (x : V) (ks vs : List D) : Prop :=
  ∃ a kvs, x = .ref a ∧ (H a = some (.dK kvs) ∨ KDc K w a kvs) ∧ (kvs.map (·.1)).Nodup ∧ ks = (kvs.map fun p => keyD p.1) ∧ RepL K w J (kvs.map (·.2)) vs
theorem RepB.dct {w : World} {K : PySem.W.Frag} {x : V} {ks vs : List D} (r : RepB K w J H x (.dct ks vs)) (hd : Hold K w J M H) : DRep K w J H x ks vs := by
  rcases r with r | ⟨a, rfl, o, h, _, _, r⟩
  · cases r with | dct j nd hk r => exact ⟨_, _, rfl, j.imp (hd.I _ _) id, nd, hk, r⟩
  · cases r with | dct nd hk r => exact ⟨a, _, rfl, .inl h, nd, hk, r⟩
theorem eqD_key (k : Key) (d : D) (hd : isKey d = true) (k2 : Key) (e : d = keyD k2) : eqD (keyD k) d = decide (k = k2) := by
  subst e
  cases k with
  | inl i => cases k2 with
    | inl j =>
      simp only [keyD, eqD]
      by_cases q : i = j
      · subst q; simp
      · have : ¬ ((Sum.inl i : Key) = Sum.inl j) := fun z => q (Sum.inl.inj z)
        simp [q]
    | inr s => simp [keyD, eqD]
  | inr x => cases k2 with
    | inl j => simp [keyD, eqD]
    | inr s =>
      simp only [keyD, eqD]
      by_cases q : x = s
      · subst q; simp
      · have : ¬ ((Sum.inr x : Key) = Sum.inr s) := fun z => q (Sum.inr.inj z)
        have q2 : ¬ x.cps.toList = s.cps.toList := fun z => q (by rw [← sOf_of x, ← sOf_of s, z])
        simp [q]
        intro z; exact q2 (by rw [z])
theorem isKey_keyD {d : D} (h : isKey d = true) {K : PySem.W.Frag} {w : World} {v : V} (r : RepB K w J H v d) : ∃ k : Key, d = keyD k ∧ v = kV k := by
  cases d <;> simp [isKey] at h
  · exact ⟨.inl _, rfl, r.int⟩
  · rename_i s
    exact ⟨.inr (sOf s), by simp [keyD, sOf_cps], r.str.1⟩
theorem dct_any (k : Key) : ∀ kvs : List (Key × V), (kvs.map fun p => keyD p.1).any (fun z => eqD z (keyD k)) = (valV kvs k).isSome
  | [] => rfl
  | p :: r => by
    have hk : isKey (keyD k) = true := by cases k <;> rfl
    rw [List.map_cons, List.any_cons, eqD_key p.1 (keyD k) hk k rfl, dct_any k r]
    by_cases e : p.1 = k
    · rw [valV_pos e, decide_eq_true e]; rfl
    · rw [valV_neg e, decide_eq_false e]; rfl
theorem dct_find (K : PySem.W.Frag) (w : World) (k : Key) : ∀ {kvs : List (Key × V)} {vs : List D}, RepL K w J (kvs.map (·.2)) vs → ∀ d, findKey (keyD k) (kvs.map fun p => keyD p.1) vs = some d → ∃ v, valV kvs k = some v ∧ Rep K w J v d
  | [], _, h, d, e => by cases h; simp [findKey] at e
  | p :: r, _, h, d, e => by
    have hk : isKey (keyD k) = true := by cases k <;> rfl
    cases h with
    | cons h t =>
      simp only [List.map_cons, findKey, eqD_key p.1 (keyD k) hk k rfl] at e
      by_cases q : p.1 = k
      · rw [decide_eq_true q] at e
        simp at e; subst e
        exact ⟨_, valV_pos q, h⟩
      · rw [decide_eq_false q] at e
        rw [valV_neg q]
        exact dct_find K w k t d (by simpa using e)
theorem dct_none (k : Key) : ∀ (kvs : List (Key × V)) (vs : List D), kvs.length = vs.length → findKey (keyD k) (kvs.map fun p => keyD p.1) vs = none → valV kvs k = none
  | [], _, _, e => rfl
  | p :: r, [], hl, e => by simp at hl
  | p :: r, v :: vs, hl, e => by
    have hk : isKey (keyD k) = true := by cases k <;> rfl
    simp only [List.map_cons, findKey, eqD_key p.1 (keyD k) hk k rfl] at e
    by_cases q : p.1 = k
    · rw [decide_eq_true q] at e; simp at e
    · rw [decide_eq_false q] at e
      rw [valV_neg q]
      exact dct_none k r vs (by simpa using hl) (by simpa using e)
theorem op_dIn (hu : X.A.units + 1 < cLine) (neg : Bool) : OpR X (compareOp (if neg then .NotIn else .In)) (fun x y H Q => ∃ J M d ks vs, Hold X.K X.w J M H ∧ RepB X.K X.w J H x d ∧ DRep X.K X.w J H y ks vs ∧ keyFit ks d = true ∧ Q (.bl (if neg then !(ks.any fun z => eqD z d) else ks.any fun z => eqD z d)) H) := by
  intro pins s σ H x y v u Q I rx ry h
  obtain ⟨J, M, d, ks, vs, hd, rd, ⟨a, kvs, rfl, h, nd, hk, rl⟩, hf, q⟩ := h
  obtain rfl : u = Value.ref a := ry
  have hkey : isKey d = true := by cases d <;> first | rfl | simp [keyFit] at hf
  obtain ⟨k, rfl, rfl⟩ := isKey_keyD hkey rd
  subst hk
  rw [dct_any] at q
  rcases h with h | ⟨es, n, D, hne, hs, hz⟩
  · cases neg with
    | false => exact d_in hu I (DGet.k h) rx fun s3 I3 => ⟨.bl _, H, I3, rfl, q⟩
    | true => exact d_notIn hu I (DGet.k h) rx fun s3 I3 => ⟨.bl _, H, I3, rfl, q⟩
  · cases k with
    | inl i =>
      exfalso
      obtain ⟨p, hp⟩ := List.exists_mem_of_ne_nil kvs hne
      obtain ⟨z, ez⟩ := hs p hp
      simp only [keyFit, keyD, List.all_eq_true] at hf
      have := hf (keyD p.1) (List.mem_map.mpr ⟨p, hp, rfl⟩)
      rw [ez] at this
      simp [keyD] at this
    | inr z =>
      obtain ⟨r, e, ro⟩ := hz z
      have er : r.isSome = (valV kvs (.inr z)).isSome := by
        cases h1 : valV kvs (.inr z) <;> cases h2 : r <;> rw [h1, h2] at ro <;> first | rfl | exact ro.elim
      cases neg with
      | false => exact op_in_kd D pins s σ H _ (.ref a) v _ Q I rx rfl ⟨z, r, rfl, rfl, e, by rw [er]; exact q⟩
      | true => exact op_notIn_kd D pins s σ H _ (.ref a) v _ Q I rx rfl ⟨z, r, rfl, rfl, e, by rw [er]; exact q⟩
theorem any_eqD {n : Nat} {d : D} (hd : shp n d = true) : ∀ {l : List D}, l.all (shp n) = true → (toPs l).any (fun z => PyData.eqv z (toP d)) = l.any fun z => eqD z d
  | [], _ => rfl
  | a :: l, h => by
    simp only [List.all_cons, Bool.and_eq_true] at h
    simp only [toPs, List.any_cons, eqv_eqD n a d h.1 hd, any_eqD hd h.2]
theorem shp_lst {n : Nat} {l : List D} (h : l.all (shp n) = true) : shp (n + 1) (.lst l) = true := h
theorem RepB.reads {X : Cx} {pins : List (Addr × Obj)} {s : Shared} {σ : L2.St} {J : Jt} {M : Mem} {H : Hp} (I : L2.Inv X pins σ H s) (hd : Hold X.K X.w J M H) {n : Nat} {d : D} {x : V} {v : Value} (r : RepB X.K X.w J H x d) (hs : shp n d = true) (hn : n ≤ 16) (rx : L2.RelV x v) :
    (∃ as, Reads s.heap v (toP d) as) ∧ (toP d).canLay0 = true ∧ (toP d).depth ≤ 16 := by
  obtain ⟨d1, s1⟩ := r.dp hd hs hn
  exact ⟨Dp.reads I _ x v d1 rx, SeqAt.canLay_of_shaped s1, Nat.le_trans (shp_depth n d hs) hn⟩
theorem opCmp {op : CmpOp} {o : COp} (ho : cCmp op = some o) (hu : X.A.units + 66 < cLine) : OpR X (compareOp op) (rCmp X o) := by
  intro pins s σ H x y v u Q I rx ry h
  obtain ⟨J, M, d1, d2, c, hd, r1, r2, e, q⟩ := h
  have mem : ∀ (op : CmpOp) (neg : Bool), op = (if neg then .NotIn else .In) → ∀ b, inO d1 d2 = some b → Q (.bl (if neg then !b else b)) H → wpAny (model X.prog X.w) X.A (compareOp op v u) (EP X pins σ Q) X.xe s := by
    intro op neg hop b hb q
    cases d2 <;> simp only [inO, reduceCtorEq] at hb
    · -- a text in a text
      rename_i t
      cases d1 <;> first | (cases hb; done) | skip
      rename_i z
      match z, hb with
      | [c], hb =>
        simp only [Option.some.injEq] at hb
        obtain ⟨e1, _⟩ := r1.str
        obtain ⟨e2, _⟩ := r2.str
        subst e1; subst e2
        have hc : decide (c ∈ (sOf t).cps.toList) = t.contains c := by rw [sOf_cps]; simp
        subst hb
        cases neg with
        | false => subst hop; exact op_in_sign pins s σ H _ _ v u Q I rx ry ⟨c, sOf t, rfl, rfl, by rw [hc]; exact q⟩
        | true => subst hop; exact op_notIn_sign pins s σ H _ _ v u Q I rx ry ⟨c, sOf t, rfl, rfl, by rw [hc]; exact q⟩
    · -- in a tuple
      rename_i l
      split at hb
      · rename_i hs
        simp only [Bool.and_eq_true] at hs
        simp only [Option.some.injEq] at hb
        obtain ⟨⟨as, q1⟩, c1, p1⟩ := r1.reads I hd hs.1 (by omega) rx
        obtain ⟨⟨bs, q2⟩, c2, p2⟩ := r2.reads I hd (show shp 16 (.tup l) = true from hs.2) (by omega) ry
        simp only [toP] at q2 c2
        simp only [PyData.canLay0] at c2
        have hm : X.A.units + 1 + min (PyData.depthAll (toPs l)) (toP d1).depth < cLine := by
          have : min (PyData.depthAll (toPs l)) (toP d1).depth ≤ 16 := Nat.le_trans (Nat.min_le_right _ _) p1
          omega
        have ea := any_eqD hs.1 hs.2
        rw [hb] at ea
        cases neg with
        | false => subst hop; exact SeqAt.in_tuple_reads q2 q1 c2 c1 hm ⟨.bl _, H, I, rfl, by rw [ea]; exact q⟩
        | true => subst hop; exact SeqAt.notIn_tuple_reads q2 q1 c2 c1 hm ⟨.bl _, H, I, rfl, by rw [ea]; exact q⟩
      · cases hb
    · -- in a list
      rename_i l
      split at hb
      · rename_i hs
        simp only [Bool.and_eq_true] at hs
        simp only [Option.some.injEq] at hb
        obtain ⟨⟨as, q1⟩, c1, p1⟩ := r1.reads I hd hs.1 (by omega) rx
        obtain ⟨⟨bs, q2⟩, c2, p2⟩ := r2.reads I hd (shp_lst (n := 15) (l := l) hs.2 : shp 16 (.lst l) = true) (by omega) ry
        simp only [toP] at q2 c2
        simp only [PyData.canLay0] at c2
        have hm : X.A.units + 1 + min (PyData.depthAll (toPs l)) (toP d1).depth < cLine := by
          have : min (PyData.depthAll (toPs l)) (toP d1).depth ≤ 16 := Nat.le_trans (Nat.min_le_right _ _) p1
          omega
        have ea := any_eqD hs.1 hs.2
        rw [hb] at ea
        cases neg with
        | false => subst hop; exact SeqAt.in_list_reads q2 q1 c2 c1 hm ⟨.bl _, H, I, rfl, by rw [ea]; exact q⟩
        | true => subst hop; exact SeqAt.notIn_list_reads q2 q1 c2 c1 hm ⟨.bl _, H, I, rfl, by rw [ea]; exact q⟩
      · cases hb
    · -- in a dict
      rename_i ks vs
      split at hb
      · rename_i hs
        simp only [Option.some.injEq] at hb
        subst hop; subst hb
        exact op_dIn (by omega) neg pins s σ H x y v u Q I rx ry ⟨J, M, d1, ks, vs, hd, r1, r2.dct hd, hs, q⟩
      · cases hb
  have eqq : ∀ (b : Bool), eqO d1 d2 = some b → ∃ as bs p1 p2, Reads s.heap v p1 as ∧ Reads s.heap u p2 bs ∧ SeqAt.shaped p1 = true ∧ SeqAt.shaped p2 = true ∧ PyData.eqv p1 p2 = b := by
    intro b hb
    unfold eqO at hb
    split at hb
    · rename_i hs
      simp only [Bool.and_eq_true] at hs
      simp only [Option.some.injEq] at hb
      obtain ⟨k1, s1⟩ := r1.dp hd hs.1 (by omega)
      obtain ⟨k2, s2⟩ := r2.dp hd hs.2 (by omega)
      obtain ⟨as, q1⟩ := Dp.reads I _ x v k1 rx
      obtain ⟨bs, q2⟩ := Dp.reads I _ y u k2 ry
      exact ⟨as, bs, _, _, q1, q2, s1, s2, by rw [eqv_eqD 16 d1 d2 hs.1 hs.2]; exact hb⟩
    · exfalso
      cases hb
  cases op <;> simp only [cCmp, Option.some.injEq] at ho <;> subst ho <;> simp only [cmpO] at e
  · obtain ⟨as, bs, p1, p2, q1, q2, s1, s2, eb⟩ := eqq c e
    exact SeqAt.compareEq_shaped q1 q2 s1 s2 (by omega) ⟨.bl _, H, I, rfl, by rw [eb]; exact q⟩
  · obtain ⟨b, hb, e⟩ := Option.map_eq_some_iff.mp e
    obtain ⟨as, bs, p1, p2, q1, q2, s1, s2, eb⟩ := eqq b hb
    subst e
    exact SeqAt.compareNe_shaped q1 q2 s1 s2 (by omega) ⟨.bl _, H, I, rfl, by rw [eb]; exact q⟩
  · cases d1 <;> cases d2 <;> simp only [reduceCtorEq, Option.some.injEq] at e
    subst e; obtain rfl := r1.int; obtain rfl := r2.int
    exact op_lt pins s σ H _ _ v u Q I rx ry ⟨_, _, rfl, rfl, q⟩
  · cases d1 <;> cases d2 <;> simp only [reduceCtorEq, Option.some.injEq] at e
    subst e; obtain rfl := r1.int; obtain rfl := r2.int
    exact op_le pins s σ H _ _ v u Q I rx ry ⟨_, _, rfl, rfl, q⟩
  · cases d1 <;> cases d2 <;> simp only [reduceCtorEq, Option.some.injEq] at e
    subst e; obtain rfl := r1.int; obtain rfl := r2.int
    exact op_gt pins s σ H _ _ v u Q I rx ry ⟨_, _, rfl, rfl, q⟩
  · cases d1 <;> cases d2 <;> simp only [reduceCtorEq, Option.some.injEq] at e
    subst e; obtain rfl := r1.int; obtain rfl := r2.int
    exact op_ge pins s σ H _ _ v u Q I rx ry ⟨_, _, rfl, rfl, q⟩
  · cases d2 <;> simp only [reduceCtorEq, Option.some.injEq] at e
    · obtain rfl := r2.non
      refine op_isN pins s σ H _ _ v u Q I rx ry ⟨rfl, ?_⟩
      rw [r1.notnon]
      subst e
      cases d1 <;> exact q
    · cases d1 <;> simp only [reduceCtorEq, Option.some.injEq] at e
      obtain rfl := r2.bl; obtain rfl := r1.bl
      subst e
      exact op_is_bl pins s σ H _ _ v u Q I rx ry ⟨_, _, rfl, rfl, by rw [← Bool.beq_eq_decide_eq, Bool.beq_comm]; exact q⟩
  · cases d2 <;> simp only [reduceCtorEq, Option.some.injEq] at e
    · obtain rfl := r2.non
      refine op_notN pins s σ H _ _ v u Q I rx ry ⟨rfl, ?_⟩
      rw [r1.notnon]
      subst e
      cases d1 <;> exact q
    · cases d1 <;> simp only [reduceCtorEq, Option.some.injEq] at e
      obtain rfl := r2.bl; obtain rfl := r1.bl
      subst e
      exact op_isnot_bl pins s σ H _ _ v u Q I rx ry ⟨_, _, rfl, rfl, by rw [← Bool.beq_eq_decide_eq, Bool.beq_comm]; exact q⟩
  · exact mem .In false rfl c e q
  · obtain ⟨b, hb, e⟩ := Option.map_eq_some_iff.mp e
    subst e
    exact mem .NotIn true rfl b hb q
end
end MP
end

section
set_option linter.all false
set_option Elab.async false
set_option maxRecDepth 100000
set_option maxHeartbeats 2000000
namespace MP
open PySem PySem.Spec PyProof.Rows L2
section
variable {X : Cx} {J : Jt} {M : Mem} {H : Hp} {Q : VK}
theorem ixN_eq (n : Nat) (i : Int) : L2.ixN n i = MP.ixN n i := by
  unfold L2.ixN MP.ixN
  by_cases h : 0 ≤ i
  · rw [if_pos h, if_pos h]
    by_cases h2 : i < n
    · rw [if_pos h2, if_pos (by omega)]
    · rw [if_neg h2, if_neg (by omega)]
  · rw [if_neg h, if_neg h]
    by_cases h2 : -(n : Int) ≤ i
    · rw [if_pos h2, if_pos (by omega)]
    · rw [if_neg h2, if_neg (by omega)]
theorem RepL.at {K : PySem.W.Frag} {w : World} {ds : List D} {vs : List V} {i : Int} {d : D} (r : RepL K w J vs ds) (e : ((MP.ixN ds.length i).bind fun j => ds[j]?) = some d) : ∃ v, atI vs i = some v ∧ Rep K w J v d := by
  obtain ⟨j, h1, h2⟩ := Option.bind_eq_some_iff.mp e
  obtain ⟨v, h3, h4⟩ := r.get h2
  exact ⟨v, by unfold atI; rw [ixN_eq, r.len, h1]; exact h3, h4⟩
theorem RepB.mt {K : PySem.W.Frag} {w : World} {x : V} {n : Nat} (r : RepB K w J H x (.mtb n)) (hd : Hold K w J M H) {mo : MO} (e : M[n]? = some mo) : ∃ a o, x = .ref a ∧ J.ρ[n]? = some a ∧ H a = some o ∧ J.I a = none ∧ moRep K w J mo o := by
  rcases r with r | ⟨a, rfl, o, _, _, _, r⟩
  · cases r with
    | mtb h =>
      obtain ⟨a, o, h1, h2, h3, h4⟩ := hd.m n mo e
      rw [h] at h1; cases h1
      exact ⟨_, o, rfl, h, h2, h3, h4⟩
  · cases r
def idxM (M : Mem) (x i : D) : Option D := match x with
  | .mtb n => match M[n]? with
    | some (.lst l) => idxO (.lst l) i
    | _ => none
  | _ => idxO x i
def rIdx (X : Cx) : R2 := fun x y H Q => ∃ J M d1 d2 d, Hold X.K X.w J M H ∧ RepB X.K X.w J H x d1 ∧ Rep X.K X.w J y d2 ∧ idxM M d1 d2 = some d ∧ ∀ v, Rep X.K X.w J v d → Q v H
theorem ixAll (hu : X.A.units + 1 < cLine) : IxR X (rIdx X) := by
  intro value slice pins s σ H x y v u Q I rx ry h hs
  obtain ⟨J, M, d1, d2, d, hd, r1, r2, e, q⟩ := h
  have isL : ∀ {a xs} {l : List D} {i : Int}, x = .ref a → y = .int i → H a = some (.lst xs) → RepL X.K X.w J xs l → ((MP.ixN l.length i).bind fun j => l[j]?) = some d → wpAny (model X.prog X.w) X.A (subscriptTail value slice v u) (EP X pins σ Q) X.xe s := by
    intro a xs l i hx hy ha rl e
    obtain ⟨z, h1, h2⟩ := rl.at e
    exact ix_list value slice pins s σ H x y v u Q I rx ry ⟨a, xs, i, z, hx, hy, SqL.of ha, h1, q z h2⟩ hs
  cases d1 <;> simp only [idxM, idxO, reduceCtorEq] at e
  · -- a text
    rename_i t
    cases d2 <;> simp only [reduceCtorEq] at e
    obtain ⟨j, h1, h2⟩ := Option.bind_eq_some_iff.mp e
    obtain ⟨c, h3, h4⟩ := Option.map_eq_some_iff.mp h2
    obtain ⟨e1, hl, hc⟩ := r1.str
    cases r2
    refine ix_str value slice pins s σ H x _ v u Q I rx ry ⟨sOf t, _, c, e1, rfl, by rw [sOf_len, ← szLine_eq]; exact hl, ?_, ?_⟩ hs
    · unfold atI; rw [sOf_cps, ixN_eq, h1]; exact h3
    · subst h4
      exact q _ (.str [c] (by show 1 ≤ szLine; decide) fun x hx => by
        have : x = c := by simpa using hx
        subst this
        exact hc x (List.mem_of_getElem? h3))
  · -- a tuple
    rename_i l
    cases d2 <;> simp only [reduceCtorEq] at e
    obtain ⟨a, xs, rfl, h1, h2⟩ := r1.tup hd
    obtain ⟨z, h3, h4⟩ := h2.at e
    cases r2
    exact ix_tup value slice pins s σ H _ _ v u Q I rx ry ⟨a, xs, _, z, rfl, rfl, h1, h3, q z h4⟩ hs
  · -- a list
    rename_i l
    cases d2 <;> simp only [reduceCtorEq] at e
    obtain ⟨a, xs, hx, h1, h2⟩ := r1.lst hd
    cases r2
    exact isL hx rfl h1 h2 e
  · -- a dict
    rename_i ks vs
    split at e
    · rename_i hf
      obtain ⟨a, kvs, rfl, h, nd, hk, rl⟩ := r1.dct hd
      obtain rfl : v = Value.ref a := rx
      have hkey : isKey d2 = true := by cases d2 <;> first | rfl | simp [keyFit] at hf
      obtain ⟨k, rfl, rfl⟩ := isKey_keyD hkey (.inl r2 : RepB X.K X.w J H y d2)
      subst hk
      obtain ⟨z, hz, hr⟩ := dct_find X.K X.w k rl d e
      rcases h with h | ⟨es, n, D, hne, hs', hz'⟩
      · have g : DGet H a (kV k) (some z) := by rw [← hz]; exact DGet.k h
        exact tail_any (dict_typeIs I g) PySem.F.slot_dict_getitem.lookup (d_getItem hu I g ry fun w' s3 I3 rw' => ⟨z, H, I3, rw', q z hr⟩) hs
      · cases k with
        | inl i =>
          exfalso
          obtain ⟨p, hp⟩ := List.exists_mem_of_ne_nil kvs hne
          obtain ⟨z, ez⟩ := hs' p hp
          simp only [keyFit, keyD, List.all_eq_true] at hf
          have := hf (keyD p.1) (List.mem_map.mpr ⟨p, hp, rfl⟩)
          rw [ez] at this
          simp [keyD] at this
        | inr t =>
          obtain ⟨r, er, ro⟩ := hz' t
          rw [hz] at ro
          cases r with
          | none => exact ro.elim
          | some u0 =>
            exact tail_any (kd_type D I) PySem.F.slot_dict_getitem.lookup (op_item_kd D pins s σ H (.ref a) _ _ u Q I rfl ry ⟨t, u0, z, rfl, rfl, er, ro, q z hr⟩) hs
    · cases e
  · -- a list that others change
    rename_i n
    split at e
    · rename_i l hm
      obtain ⟨a, o, hx, _, ha, _, xs, rfl, rl⟩ := RepB.mt r1 hd hm
      cases d2 <;> simp only [idxO, reduceCtorEq] at e
      cases r2
      exact isL hx rfl ha rl e
    · cases e
  · -- the script
    rename_i l
    cases d2 <;> simp only [reduceCtorEq] at e
    obtain ⟨j, h1, h2⟩ := Option.bind_eq_some_iff.mp e
    obtain ⟨c, h3, h4⟩ := Option.map_eq_some_iff.mp h2
    cases r2
    rcases r1 with r1 | ⟨_, _, o, _, _, _, r1⟩
    · cases r1 with
      | scr j =>
        subst h4
        refine ix_list value slice pins s σ H _ _ v u Q I rx ry ⟨_, _, _, .int c, rfl, rfl, hd.scr j, ?_, q _ (.int c)⟩ hs
        unfold atI
        rw [ixN_eq, List.length_map, h1]
        show (List.map V.int l)[_]? = _
        rw [List.getElem?_map, h3]; rfl
    · cases r1
end
end MP
end

section
set_option linter.all false
set_option Elab.async false
set_option maxRecDepth 100000
set_option maxHeartbeats 2000000
namespace MP
open PySem PySem.Spec PyProof.Rows L2
mutual
theorem shw_showable : ∀ (n : Nat) (d : D), shw n d = true → (toP d).showable = true
  | n, .non, _ => rfl
  | n, .bl _, _ => rfl
  | n, .int i, h => by cases n <;> simpa [shw, toP, PyData.showable] using h
  | n, .str _, _ => rfl
  | 0, .tup _, h => by simp [shw] at h
  | 0, .lst _, h => by simp [shw] at h
  | n + 1, .tup a, h => by simp only [shw] at h; simp only [toP, PyData.showable]; exact shws_showable n a h
  | n + 1, .lst a, h => by simp only [shw] at h; simp only [toP, PyData.showable]; exact shws_showable n a h
  | n, .dct _ _, hd => by cases n <;> simp [shw] at hd
  | n, .ins _ _, hd => by cases n <;> simp [shw] at hd
  | n, .cls _, hd => by cases n <;> simp [shw] at hd
  | n, .err _ _, hd => by cases n <;> simp [shw] at hd
  | n, .lam _ _, hd => by cases n <;> simp [shw] at hd
  | n, .unp _, hd => by cases n <;> simp [shw] at hd
  | n, .mtb _, hd => by cases n <;> simp [shw] at hd
  | n, .scr _, hd => by cases n <;> simp [shw] at hd
theorem shws_showable : ∀ (n : Nat) (d : List D), shws n d = true → PyData.showableAll (toPs d) = true
  | n, [], _ => rfl
  | n, d :: ds, h => by
    simp only [shws, Bool.and_eq_true] at h
    simp only [toPs, PyData.showableAll, Bool.and_eq_true]
    exact ⟨shw_showable n d h.1, shws_showable n ds h.2⟩
end
mutual
theorem toP_noDict : ∀ d : D, (toP d).hasDict = false
  | .non | .bl _ | .int _ | .str _ | .dct _ _ | .ins _ _ | .mtb _ | .scr _ | .cls _ | .err _ _ | .lam _ _ | .unp _ => rfl
  | .tup l => by simp only [toP, PyData.hasDict]; exact toPs_noDict l
  | .lst l => by simp only [toP, PyData.hasDict]; exact toPs_noDict l
theorem toPs_noDict : ∀ d : List D, PyData.hasDictAll (toPs d) = false
  | [] => rfl
  | d :: ds => by simp only [toPs, PyData.hasDictAll, toP_noDict d, toPs_noDict ds]; rfl
end
section
variable {X : Cx} {J : Jt} {M : Mem} {H : Hp} {Q : VK}
/-- arguments, looked at -/
inductive ArgsB (K : PySem.W.Frag) (w : World) (J : Jt) (H : Hp) : List V → List D → Prop
  | nil : ArgsB K w J H [] []
  | cons {v : V} {d : D} {vs : List V} {ds : List D} : RepB K w J H v d → ArgsB K w J H vs ds → ArgsB K w J H (v :: vs) (d :: ds)
theorem ArgsB.of {K : PySem.W.Frag} {w : World} : ∀ {ds : List D} {vs : List V}, RepL K w J vs ds → ArgsB K w J H vs ds
  | [], _, h => by cases h; exact .nil
  | _ :: _, _, h => by cases h with | cons h t => exact .cons (.inl h) (ArgsB.of t)
def rBi (X : Cx) (f : Bi) : List V → Hp → VK → Prop := fun xs H Q => ∃ J M ds d, Hold X.K X.w J M H ∧ ArgsB X.K X.w J H xs ds ∧ biO reprD f ds = some d ∧ Ans X J M H d (freshBi f) Q
theorem ArgsB.one {K : PySem.W.Frag} {w : World} {xs : List V} {d : D} (h : ArgsB K w J H xs [d]) : ∃ x, xs = [x] ∧ RepB K w J H x d := by
  cases h with | cons h t => cases t; exact ⟨_, rfl, h⟩
theorem ArgsB.two {K : PySem.W.Frag} {w : World} {xs : List V} {d e : D} (h : ArgsB K w J H xs [d, e]) : ∃ x y, xs = [x, y] ∧ RepB K w J H x d ∧ RepB K w J H y e := by
  cases h with | cons h t => cases t with | cons h2 t => cases t; exact ⟨_, _, rfl, h, h2⟩
theorem okTxt_str {K : PySem.W.Frag} {w : World} {s : List Nat} (h : okTxt s = true) : Rep K w J (.str (sOf s)) (.str s) := by
  simp only [okTxt, Bool.and_eq_true, decide_eq_true_eq, List.all_eq_true] at h
  exact .str s h.1 fun c hc => of_decide_eq_true (by simpa using h.2 c hc)
theorem bi_len : CallR X (.builtin "len") (rBi X .len) := by
  intro pins s σ H xs us Q I r h
  obtain ⟨J, M, ds, d, hd, ha, e, q⟩ := h
  match ds, e with
  | [.lst l], e =>
    obtain ⟨x, rfl, r1⟩ := ha.one
    obtain ⟨a, ys, rfl, h1, h2⟩ := r1.lst hd
    simp only [biO, Option.some.injEq] at e; subst e
    exact call_len_seq pins s σ H _ us Q I r ⟨a, ys, rfl, .inl (SqL.of h1), by rw [h2.len]; exact q.sh hd (.int _)⟩
  | [.tup l], e =>
    obtain ⟨x, rfl, r1⟩ := ha.one
    obtain ⟨a, ys, rfl, h1, h2⟩ := r1.tup hd
    simp only [biO, Option.some.injEq] at e; subst e
    exact call_len_seq pins s σ H _ us Q I r ⟨a, ys, rfl, .inr h1, by rw [h2.len]; exact q.sh hd (.int _)⟩
  | [.str l], e =>
    obtain ⟨x, rfl, r1⟩ := ha.one
    obtain ⟨rfl, h1, _⟩ := r1.str
    simp only [biO, Option.some.injEq] at e; subst e
    exact call_len_str pins s σ H _ us Q I r ⟨_, rfl, by rw [sOf_len, ← szLine_eq]; exact h1, by rw [sOf_len]; exact q.sh hd (.int _)⟩
  | [.scr l], e =>
    obtain ⟨x, rfl, r1⟩ := ha.one
    simp only [biO, Option.some.injEq] at e; subst e
    rcases r1 with r1 | ⟨_, _, o, _, _, _, r1⟩
    · cases r1 with
      | scr j =>
        refine call_len_seq pins s σ H _ us Q I r ⟨_, _, rfl, .inl (hd.scr j), ?_⟩
        rw [List.length_map]; exact q.sh hd (.int _)
    · cases r1
  | [], e => simp [biO] at e
  | _ :: _ :: _, e => simp [biO] at e
  | [.non], e => simp [biO] at e
  | [.bl _], e => simp [biO] at e
  | [.int _], e => simp [biO] at e
  | [.ins _ _], e | [.cls _], e | [.err _ _], e | [.lam _ _], e | [.unp _], e => simp [biO] at e
  | [.mtb _], e => simp [biO] at e
  | [.dct _ _], e => simp [biO] at e
theorem bi_tuple : CallR X (.type "tuple") (rBi X .tuple) := by
  intro pins s σ H xs us Q I r h
  obtain ⟨J, M, ds, d, hd, ha, e, q⟩ := h
  match ds, e with
  | [.lst l], e =>
    obtain ⟨x, rfl, r1⟩ := ha.one
    obtain ⟨a, ys, rfl, h1, h2⟩ := r1.lst hd
    simp only [biO, Option.some.injEq] at e; subst e
    exact call_tupF pins s σ H _ us Q I r ⟨a, ys, rfl, .inl ⟨SqL.of h1, Ans.tup q hd h2⟩⟩
  | [.tup l], e =>
    obtain ⟨x, rfl, r1⟩ := ha.one
    have r1' := r1
    obtain ⟨a, ys, rfl, h1, h2⟩ := r1.tup hd
    simp only [biO, Option.some.injEq] at e; subst e
    refine call_tupF pins s σ H _ us Q I r ⟨a, ys, rfl, .inr ⟨h1, ?_⟩⟩
    rcases r1' with r1 | ⟨_, _, o, _, _, _, r1⟩
    · exact q.sh hd r1
    · cases r1
  | [], e => simp [biO] at e
  | _ :: _ :: _, e => simp [biO] at e
  | [.non], e | [.bl _], e | [.int _], e | [.ins _ _], e | [.cls _], e | [.err _ _], e | [.lam _ _], e | [.unp _], e | [.mtb _], e | [.str _], e | [.scr _], e | [.dct _ _], e => simp [biO] at e
theorem bi_list : CallR X (.type "list") (rBi X .list) := by
  intro pins s σ H xs us Q I r h
  obtain ⟨J, M, ds, d, hd, ha, e, q⟩ := h
  match ds, e with
  | [.lst l], e =>
    obtain ⟨x, rfl, r1⟩ := ha.one
    obtain ⟨a, ys, rfl, h1, h2⟩ := r1.lst hd
    simp only [biO, Option.some.injEq] at e; subst e
    exact call_list_of pins s σ H _ us Q I r ⟨a, ys, rfl, .inl (SqL.of h1), Ans.lst q hd h2⟩
  | [.tup l], e =>
    obtain ⟨x, rfl, r1⟩ := ha.one
    obtain ⟨a, ys, rfl, h1, h2⟩ := r1.tup hd
    simp only [biO, Option.some.injEq] at e; subst e
    exact call_list_of pins s σ H _ us Q I r ⟨a, ys, rfl, .inr h1, Ans.lst q hd h2⟩
  | [], e => simp [biO] at e
  | _ :: _ :: _, e => simp [biO] at e
  | [.non], e | [.str _], e | [.bl _], e | [.int _], e | [.ins _ _], e | [.cls _], e | [.err _ _], e | [.lam _ _], e | [.unp _], e | [.mtb _], e | [.scr _], e | [.dct _ _], e => simp [biO] at e
theorem bi_allany (hc : X.calm = true) : CallR X (.builtin "all") (rBi X .all) ∧ CallR X (.builtin "any") (rBi X .any) := by
  constructor
  · intro pins s σ H xs us Q I r h
    obtain ⟨J, M, ds, d, hd, ha, e, q⟩ := h
    match ds, e with
    | [.lst l], e =>
      obtain ⟨x, rfl, r1⟩ := ha.one
      obtain ⟨a, ys, rfl, h1, h2⟩ := r1.lst hd
      simp only [biO] at e
      obtain ⟨bs, hb, e⟩ := Option.map_eq_some_iff.mp e
      rw [mapO_bls hb] at h2
      have := h2.bls
      subst this; subst e
      exact cr_all hc pins s σ H _ us Q I r ⟨a, bs, rfl, SqL.of h1, q.sh hd (.bl _)⟩
    | [], e => simp [biO] at e
    | _ :: _ :: _, e => simp [biO] at e
    | [.non], e | [.bl _], e | [.int _], e | [.ins _ _], e | [.cls _], e | [.err _ _], e | [.lam _ _], e | [.unp _], e | [.mtb _], e | [.scr _], e | [.dct _ _], e | [.tup _], e | [.str _], e => simp [biO] at e
  · intro pins s σ H xs us Q I r h
    obtain ⟨J, M, ds, d, hd, ha, e, q⟩ := h
    match ds, e with
    | [.lst l], e =>
      obtain ⟨x, rfl, r1⟩ := ha.one
      obtain ⟨a, ys, rfl, h1, h2⟩ := r1.lst hd
      simp only [biO] at e
      obtain ⟨bs, hb, e⟩ := Option.map_eq_some_iff.mp e
      rw [mapO_bls hb] at h2
      have := h2.bls
      subst this; subst e
      exact cr_any hc pins s σ H _ us Q I r ⟨a, bs, rfl, SqL.of h1, q.sh hd (.bl _)⟩
    | [], e => simp [biO] at e
    | _ :: _ :: _, e => simp [biO] at e
    | [.non], e | [.bl _], e | [.int _], e | [.ins _ _], e | [.cls _], e | [.err _ _], e | [.lam _ _], e | [.unp _], e | [.mtb _], e | [.scr _], e | [.dct _ _], e | [.tup _], e | [.str _], e => simp [biO] at e
theorem bi_int : CallR X (.type "int") (rBi X .int) := by
  intro pins s σ H xs us Q I r h
  obtain ⟨J, M, ds, d, hd, ha, e, q⟩ := h
  match ds, e with
  | [.int l], e =>
    obtain ⟨x, rfl, r1⟩ := ha.one
    obtain rfl := r1.int
    simp only [biO, Option.some.injEq] at e; subst e
    exact call_int1 pins s σ H _ us Q I r (.inl ⟨_, rfl, q.sh hd (.int _)⟩)
  | [.bl l], e =>
    obtain ⟨x, rfl, r1⟩ := ha.one
    obtain rfl := r1.bl
    simp only [biO, Option.some.injEq] at e; subst e
    exact call_int1 pins s σ H _ us Q I r (.inr ⟨_, rfl, q.sh hd (.int _)⟩)
  | [.str [c]], e =>
    obtain ⟨x, rfl, r1⟩ := ha.one
    simp only [biO] at e
    split at e
    · rename_i hc
      cases e
      rcases r1 with r1 | ⟨_, _, o, _, _, _, r1⟩
      · cases r1 with
        | str _ h1 h2 =>
          have hc : 48 ≤ c ∧ c ≤ 57 := by simpa using hc
          refine call_int_str pins s σ H _ us Q I r ⟨sOf [c], ((c - 48 : Nat) : Int), rfl, ?_, by rw [sOf_len]; simp, q.sh hd (.int _)⟩
          have : ∀ k : Nat, k < 10 → PySem.intText? (sOf [48 + k]) = some (k : Int) := by decide +kernel
          have h3 := this (c - 48) (by omega)
          rw [show 48 + (c - 48) = c by omega] at h3
          exact h3
      · cases r1
    · cases e
  | [.str []], e | [.str (_ :: _ :: _)], e => simp [biO] at e
  | [], e => simp [biO] at e
  | _ :: _ :: _, e => simp [biO] at e
  | [.non], e | [.ins _ _], e | [.cls _], e | [.err _ _], e | [.lam _ _], e | [.unp _], e | [.mtb _], e | [.scr _], e | [.dct _ _], e | [.tup _], e | [.lst _], e => simp [biO] at e
theorem bi_str : CallR X (.type "str") (rBi X .str) := by
  intro pins s σ H xs us Q I r h
  obtain ⟨J, M, ds, d, hd, ha, e, q⟩ := h
  match ds, e with
  | [.int l], e =>
    obtain ⟨x, rfl, r1⟩ := ha.one
    obtain rfl := r1.int
    simp only [biO] at e
    split at e
    · rename_i hc
      simp only [Bool.and_eq_true, decide_eq_true_eq] at hc
      cases e
      refine call_str_int pins s σ H _ us Q I r ⟨_, rfl, hc.1, ?_⟩
      have := q.sh hd (okTxt_str hc.2)
      rw [intText, sOf_of] at this
      exact this
    · cases e
  | [.str l], e =>
    obtain ⟨x, rfl, r1⟩ := ha.one
    have r1' := r1
    obtain ⟨rfl, _, _⟩ := r1.str
    simp only [biO, Option.some.injEq] at e; subst e
    refine SkE.call_str_str pins s σ H _ us Q I r ⟨_, rfl, q.sh hd ?_⟩
    rcases r1' with r1 | ⟨_, _, o, _, _, _, r1⟩
    · exact r1
    · cases r1
  | [], e => simp [biO] at e
  | _ :: _ :: _, e => simp [biO] at e
  | [.non], e | [.ins _ _], e | [.cls _], e | [.err _ _], e | [.lam _ _], e | [.unp _], e | [.mtb _], e | [.scr _], e | [.dct _ _], e | [.tup _], e | [.bl _], e | [.lst _], e => simp [biO] at e
theorem bi_abs : CallR X (.builtin "abs") (rBi X .abs) := by
  intro pins s σ H xs us Q I r h
  obtain ⟨J, M, ds, d, hd, ha, e, q⟩ := h
  match ds, e with
  | [.int l], e =>
    obtain ⟨x, rfl, r1⟩ := ha.one
    obtain rfl := r1.int
    simp only [biO, Option.some.injEq] at e; subst e
    exact call_abs pins s σ H _ us Q I r ⟨_, rfl, q.sh hd (.int _)⟩
  | [], e => simp [biO] at e
  | _ :: _ :: _, e => simp [biO] at e
  | [.non], e | [.ins _ _], e | [.cls _], e | [.err _ _], e | [.lam _ _], e | [.unp _], e | [.mtb _], e | [.scr _], e | [.dct _ _], e | [.tup _], e | [.bl _], e | [.lst _], e | [.str _], e => simp [biO] at e
theorem biO2 {f : Bi} (hf : f = .min ∨ f = .max ∨ f = .divmod) {ds : List D} {d : D} (e : biO reprD f ds = some d) : ∃ i j, ds = [.int i, .int j] := by
  rcases hf with rfl | rfl | rfl <;> unfold biO at e <;> split at e <;> first | exact ⟨_, _, rfl⟩ | (simp_all; done)
theorem bi_min (hc : X.calm = true) : CallR X (.builtin "min") (rBi X .min) := by
  intro pins s σ H xs us Q I r h
  obtain ⟨J, M, ds, d, hd, ha, e, q⟩ := h
  obtain ⟨i, j, rfl⟩ := biO2 (.inl rfl) e
  obtain ⟨x, y, rfl, r1, r2⟩ := ha.two
  obtain rfl := r1.int; obtain rfl := r2.int
  simp only [biO, Option.some.injEq] at e; subst e
  exact call_min2 hc pins s σ H _ us Q I r ⟨_, _, rfl, q.sh hd (.int _)⟩
theorem bi_max (hc : X.calm = true) : CallR X (.builtin "max") (rBi X .max) := by
  intro pins s σ H xs us Q I r h
  obtain ⟨J, M, ds, d, hd, ha, e, q⟩ := h
  obtain ⟨i, j, rfl⟩ := biO2 (.inr (.inl rfl)) e
  obtain ⟨x, y, rfl, r1, r2⟩ := ha.two
  obtain rfl := r1.int; obtain rfl := r2.int
  simp only [biO, Option.some.injEq] at e; subst e
  exact call_max2 hc pins s σ H _ us Q I r ⟨_, _, rfl, q.sh hd (.int _)⟩
theorem bi_divmod : CallR X (.builtin "divmod") (rBi X .divmod) := by
  intro pins s σ H xs us Q I r h
  obtain ⟨J, M, ds, d, hd, ha, e, q⟩ := h
  obtain ⟨i, j, rfl⟩ := biO2 (.inr (.inr rfl)) e
  obtain ⟨x, y, rfl, r1, r2⟩ := ha.two
  obtain rfl := r1.int; obtain rfl := r2.int
  simp only [biO] at e
  split at e
  · rename_i hc
    simp only [Bool.and_eq_true, decide_eq_true_eq] at hc
    cases e
    exact call_divmodF pins s σ H _ us Q I r ⟨_, _, rfl, hc, Ans.tup q hd (.cons (.int _) (.cons (.int _) .nil))⟩
  · cases e
theorem bi_repr (hg : X.A.guards = some []) (hu : X.A.units + 64 < cLine) : CallR X (.builtin "repr") (rBi X .repr) := by
  intro pins s σ H xs us Q I r h
  obtain ⟨J, M, ds, d, hd, ha, e, q⟩ := h
  obtain ⟨d0, rfl⟩ : ∃ d0, ds = [d0] := by
    unfold biO at e
    split at e <;> first | exact ⟨_, rfl⟩ | (simp_all; done)
  obtain ⟨x, rfl, r1⟩ := ha.one
  simp only [biO] at e
  obtain ⟨t, ht, e⟩ := Option.bind_eq_some_iff.mp e
  split at e
  · rename_i hok
    cases e
    unfold reprD at ht
    split at ht
    · rename_i hs
      simp only [Bool.and_eq_true] at hs
      simp only [Option.some.injEq] at ht
      have hq : Q (.str (toP d0).shown) H := by
        have := q.sh hd (okTxt_str hok)
        rw [← ht, sOf_of] at this
        exact this
      have hsz : (toP d0).shown.length ≤ sizeLine := by
        have h1 : t.length ≤ szLine := by
          have := hok
          simp only [okTxt, Bool.and_eq_true, decide_eq_true_eq] at this
          exact this.1
        rw [← szLine_eq]
        rw [← ht] at h1
        simpa [PySem.Str.length] using h1
      obtain ⟨u, rfl, rx⟩ : ∃ u, us = [u] ∧ L2.RelV x u := by
        cases r with | cons rx rt => cases rt; exact ⟨_, rfl, rx⟩
      · obtain ⟨⟨as, hr⟩, _, hdep⟩ := r1.reads I hd hs.1 (by omega) rx
        have hshow := shw_showable 16 d0 hs.2
        have big : ∀ a, x = .ref a → wpAny (model X.prog X.w) X.A (call (.builtin "repr") [u]) (EP X pins σ Q) X.xe s := fun a hx => by
          subst hx
          cases rx
          exact repr_of_reads' hr hshow (fun z => by rw [toP_noDict] at z; cases z) hg (by omega) (fun _ _ z => z) (fun h' u tk hk => ⟨.str _, H, I.kept hk, ⟨_, rfl⟩, hq⟩) hsz
        cases d0 with
        | non => obtain rfl := r1.non; cases rx; exact PySem.P.repr_of_none ⟨.str _, H, I.tok _, ⟨_, rfl⟩, hq⟩
        | bl b =>
          obtain rfl := r1.bl; cases rx
          refine PySem.P.repr_of_bool ⟨.str _, H, I.tok _, ⟨_, rfl⟩, ?_⟩
          cases b <;> exact hq
        | int i =>
          obtain rfl := r1.int; obtain ⟨t, rfl⟩ := rx
          exact PySem.P.repr_of_int (by simpa [toP, PyData.showable] using hshow) ⟨.str _, H, I.tok _, ⟨_, rfl⟩, hq⟩
        | str z =>
          obtain ⟨rfl, _, _⟩ := r1.str; obtain ⟨t, rfl⟩ := rx
          exact PySem.P.repr_of_str ⟨.str _, H, I.tok _, ⟨_, rfl⟩, hq⟩ hsz
        | tup l => obtain ⟨a, ys, hx, _⟩ := r1.tup hd; exact big a hx
        | lst l => obtain ⟨a, ys, hx, _⟩ := r1.lst hd; exact big a hx
        | dct _ _ => simp [shp] at hs
        | ins _ _ => simp [shp] at hs
        | cls _ => simp [shp] at hs
        | err _ _ => simp [shp] at hs
        | lam _ _ => simp [shp] at hs
        | unp _ => simp [shp] at hs
        | mtb _ => simp [shp] at hs
        | scr _ => simp [shp] at hs
    · cases ht
  · cases e
end
end MP
end

section
set_option linter.all false
set_option Elab.async false
set_option maxRecDepth 100000
set_option maxHeartbeats 2000000
namespace MP
open PySem PySem.Spec PyProof.Rows L2
/-- how an exception lies: its class's number, its one argument -/
abbrev ExR := Nat → Option D → Jt → Hp → Value → Option Addr → Prop
/-- what a def does, as data -/
def spOf (K : PySem.W.Frag) (w : World) (ER : ExR) (np : Nat) (F : List D → MM (D × Bool)) : Sp := fun vs H Q E => ∃ J M ds, Hold K w J M H ∧ RepL K w J vs ds ∧ ds.length = np ∧
  match F ds M with
  | .ok (d, o) M' => ∀ v H' J', Go J H J' H' → Hold K w J' M' H' → RepO K w J' H H' v d o → Q v H'
  | .exc c p M' => ∀ cv dd H' J', Go J H J' H' → Hold K w J' M' H' → ER c p J' H' cv dd → E cv dd H'
  | .bad => False
/-- a def that keeps it: HandS's FnOk, the guards told -/
structure FOk (P : Program) (w : World) (K : PySem.W.Frag) (mg : Str → Option Value) (base : Heap) (k : Nat) (f : Addr) (fd : FuncData) (ps : List Str) (sp : Sp) : Prop where
  run : ∀ (A : Around) (outer : List PySem.Env) (s : Shared) (H : Hp) (args : Args) (us : List Value) (vs : List V) (Q : VK) (E : XK), Room k A → A.guards = some [] → Env0 P w K mg base A outer s H → BindsTo s fd args (ps.zip us) → Vals vs us → sp vs H Q E →
    codeAny (model P w) A (.call (.ref f) args) (CR (CX P w) outer P w H s Q E) s
theorem FOk.mono {P : Program} {w : World} {K : PySem.W.Frag} {mg : Str → Option Value} {base : Heap} {j k : Nat} {f : Addr} {fd : FuncData} {ps : List Str} {sp : Sp} (F : FOk P w K mg base j f fd ps sp) (h : j ≤ k) : FOk P w K mg base k f fd ps sp :=
  ⟨fun A outer s H args us vs Q E hr => F.run A outer s H args us vs Q E (hr.mono h)⟩
/-- a class, as read: what of the text it must have -/
def clsB (K : PySem.W.Frag) (c : Nat) : Bool := match clsTab[c]?, clsAt K c with
  | some (nm, fn, _), some C => PySem.W.plainGet K C Str.empty && (PySem.W.findIn K (.ref C) "__ne__" == some (some (.builtin "object.__ne__")) && (PySem.W.hasDictIn K C && (PySem.W.plainOver K C && (PySem.W.findIn K (.ref C) "__setattr__" == some (some (.builtin "object.__setattr__")) && ((fn ++ [("seen" : Str)]).all (fun f => PySem.W.findIn K (.ref C) f == some none) &&
      (PySem.W.findIn K (.ref C) "__class__" == some (some (.builtin "object.__class__")) && PySem.W.specialIn K (.builtin "object.__class__") "__get__" == some (some (.builtin "getset_descriptor.__get__")) && PySem.W.takesIn K (.builtin "object.__class__") == some true && PySem.W.mroIn K C (.type "object") == some true &&
      ((["NoneType", "bool", "int", "str", "tuple", "list", "dict"] : List String).all (fun t => PySem.W.kitOne K (.type t) (.ref C) == some false) && (["bool", "int", "str", "tuple"] : List String).all (fun t => PySem.W.kitOne K (.ref C) (.type t) == some false) &&
        (List.range clsTab.length).all fun c' => match clsAt K c' with
          | some C' => PySem.W.kitOne K (.ref C) (.ref C') == some (c == c')
          | none => true)))))))
  | _, _ => true
/-- an instance is made: its class's __init__, from the new instance's address and the one argument -/
def spInit (K : PySem.W.Frag) (w : World) (ER : ExR) (c : Nat) (F : List D → MM (D × Bool)) : Sp := fun vs H Q E => ∃ (J : Jt) (M : Mem) (d : D) (v : V) (x dx C : Addr) (H0 : Hp), vs = [.ref x, v] ∧ clsAt K c = some C ∧ H = upd (upd H0 dx (.own x)) x (.ins C dx []) ∧ H0 x = none ∧ H0 dx = none ∧ dx ≠ x ∧ Hold K w J M H0 ∧ Rep K w J v d ∧
  match F [d] M with
  | .ok _ M' => ∀ H' J', Go J H0 J' H' → Hold K w J' M' H' → Rep K w J' (.ref x) (.ins c [d]) → Q .non H'
  | .exc cc p M' => ∀ cv dd H' J', Go J H0 J' H' → Hold K w J' M' H' → ER cc p J' H' cv dd → E cv dd H'
  | .bad => False
/-- what a def's text finds by name -/
structure Globs (S : Cs) (Y : Ctx) (ER : ExR) (k : Nat) (P : Program) (w : World) (K : PySem.W.Frag) (mg : Str → Option Value) (base : Heap) : Prop where
  rp : Y.rp = reprD
  calls : ∀ f ps, S.sig.lookup f = some ps → (f == ("__debug__" : Str)) = false ∧ ∃ fa fd, mg f = some (.ref fa) ∧ PySem.W.keepIn K (.ref fa) = true ∧
    (∀ (s : Shared) (us : List Value), us.length = ps.2.length → BindsTo s fd ⟨us, []⟩ (ps.2.zip us)) ∧
    (∀ npos ks pm, (f, npos, ks) ∈ S.kws → permOf ks npos ps.2 = some pm → ∀ (s : Shared) (us ws : List Value), us.length = npos → ws.length = ks.length → npos + ks.length = ps.2.length →
      BindsTo s fd ⟨us, ks.zip ws⟩ (ps.2.zip (pm.map fun i => (us ++ ws).getD i .none))) ∧
    FOk P w K mg base k fa fd ps.2 (spOf K w ER ps.2.length (Y.F ps.1))
  glob : ∀ x i d, S.consts.lookup x = some i → Y.G i = some d → (x == ("__debug__" : Str)) = false ∧ ∃ u v, mg x = some u ∧ RelV v u ∧ ∀ J, Rep K w J v d
  blt : ∀ x : Str, x ∈ (["len", "tuple", "list", "all", "any", "int", "str", "repr", "abs", "min", "max", "sum", "sorted", "dict", "divmod", "range", "zip", "enumerate", "isinstance", "bool"] : List Str) → mg x = none
  cls : ∀ c, clsB K c = true
  clsn : ∀ x c, S.clss.lookup x = some c → (x == ("__debug__" : Str)) = false ∧ clsNm[c]? = some x ∧ ∃ C, clsAt K c = some C ∧ mg x = some (.ref C) ∧ PySem.W.keepIn K (.ref C) = true
  memB : ∀ c m n, methNo c m = some n → memOk K c m = true
  binds : ∀ (fd : FuncData), entOk K fd = true → (∀ (s : Shared) (us : List Value), us.length = (psOf fd).length → BindsTo s fd ⟨us, []⟩ ((psOf fd).zip us)) ∧
    ∀ npos ks pm, ks.Nodup → (∀ y ∈ ks, y ∈ (psOf fd).drop npos) → permOf ks npos (psOf fd) = some pm → ∀ (s : Shared) (us ws : List Value), us.length = npos → ws.length = ks.length → npos + ks.length = (psOf fd).length →
      BindsTo s fd ⟨us, ks.zip ws⟩ ((psOf fd).zip (pm.map fun i => (us ++ ws).getD i .none))
  meths : ∀ c m n kd f fd, methNo c m = some n → (m == "__init__") = false → memK K c m = some (kd, f, fd) → FOk P w K mg base k f fd (psOf fd) (spOf K w ER (psOf fd).length (Y.F n))
  inits : ∀ c n f fd, methNo c "__init__" = some n → initK K c = some (f, fd) → (psOf fd).drop 1 = (initP[c]?).toList ∧ (psOf fd).length = 2 ∧ FOk P w K mg base k f fd (psOf fd) (spInit K w ER c (Y.F n))
  initB : ∀ c, (clsAt K c).isSome = true → (initK K c).isSome = true
/-- where one stands -/
structure XOk (S : Cs) (Y : Ctx) (ER : ExR) (k : Nat) (W : WX) (X : Cx) : Prop where
  N : X.N = S.N
  nd : S.N.Nodup
  nodb : ∀ x ∈ S.N, (x == ("__debug__" : Str)) = false ∧ (x == ("__classdict__" : Str)) = false
  sc : ∀ x k, S.sc.names.lookup x = some k → X.env.scope.names.lookup x = some k ∨ (k = .free ∧ X.env.scope.names.lookup x = some .cell)
  fn : ∀ x, S.sc.names.lookup x = some .cell → X.fn x = true
  calm : X.calm = true
  room : Room k X.A
  slack : X.A.depth + 3 * k + 7 < recursionLimit ∧ X.A.units + 16 * k + 212 < cLine
  guards : X.A.guards = some []
  tk : Takes X W
  own : PassesOwn (model X.prog X.w) X.A X.env X.xe
  G : Globs S Y ER k X.prog X.w X.K X.mg X.base
section
variable {S : Cs} {Y : Ctx} {ER : ExR} {k : Nat} {W : WX} {X : Cx}
def ResG {α : Type} (X : Cx) (ER : ExR) (W : WX) (σ : L2.St) (J : Jt) (H : Hp) (r : R α) (post : α → Mem → Jt → Hp → Prop) : Prop :=
  match r with
  | .ok a M' => ∀ J' H', Go J H J' H' → Hold X.K X.w J' M' H' → post a M' J' H'
  | .exc c p M' => ∀ cv dd J' H', Go J H J' H' → Hold X.K X.w J' M' H' → ER c p J' H' cv dd → W cv dd σ H'
  | .bad => False
theorem XOk.rp (ok : XOk S Y ER k W X) : Y.rp = reprD := ok.G.rp
def XOk.calls (ok : XOk S Y ER k W X) := ok.G.calls
def XOk.glob (ok : XOk S Y ER k W X) := ok.G.glob
def XOk.blt (ok : XOk S Y ER k W X) := ok.G.blt
theorem ResG.shift {α : Type} {σ : L2.St} {J J1 : Jt} {H H1 : Hp} {r : R α} {post : α → Mem → Jt → Hp → Prop} (h : ResG X ER W σ J H r post) (g : Go J H J1 H1) : ResG X ER W σ J1 H1 r post := by
  cases r with
  | ok a M => exact fun J' H' g' hd => h J' H' (g.trans g') hd
  | exc c p M => exact fun cv dd J' H' g' hd => h cv dd J' H' (g.trans g') hd
  | bad => exact h
theorem ResG.imp {α : Type} {σ : L2.St} {J : Jt} {H : Hp} {r : R α} {post post' : α → Mem → Jt → Hp → Prop} (h : ResG X ER W σ J H r post) (f : ∀ a M' J' H', Go J H J' H' → Hold X.K X.w J' M' H' → post a M' J' H' → post' a M' J' H') : ResG X ER W σ J H r post' := by
  cases r with
  | ok a M => exact fun J' H' g' hd => f _ _ _ _ g' hd (h J' H' g' hd)
  | exc c p M => exact h
  | bad => exact h
/-- an expression's reading -/
def rdE (Y : Ctx) (ER : ExR) (W : WX) (X : Cx) (c : C) : TE := fun σ H Q => ∃ J M e, Hold X.K X.w J M H ∧ Slots X.K X.w J H σ e ∧
  ResG X ER W σ J H (den Y c e M) fun x _ J' H' => ∀ v, RepO X.K X.w J' H H' v x.1 x.2 → Q v H'
/-- .. where it is only looked at -/
def rdB (Y : Ctx) (ER : ExR) (W : WX) (X : Cx) (c : C) : TE := fun σ H Q => ∃ J M e, Hold X.K X.w J M H ∧ Slots X.K X.w J H σ e ∧
  ResG X ER W σ J H (den Y c e M) fun x _ J' H' => ∀ v, RepB X.K X.w J' H' v x.1 → Q v H'
def rdT (Y : Ctx) (ER : ExR) (W : WX) (X : Cx) (c : C) : TT := fun σ H Q => ∃ J M e, Hold X.K X.w J M H ∧ Slots X.K X.w J H σ e ∧
  ResG X ER W σ J H (den Y c e M) fun x _ J' H' => ∃ b, x.1 = .bl b ∧ Q b H'
def rdL (Y : Ctx) (ER : ExR) (W : WX) (X : Cx) (cs : List C) : TA := fun σ H Q => ∃ J M e, Hold X.K X.w J M H ∧ Slots X.K X.w J H σ e ∧
  ResG X ER W σ J H (denL Y cs e M) fun ds _ J' H' => ∀ vs, RepL X.K X.w J' vs ds → Q vs H'
theorem rdE.mono {c : C} {σ : L2.St} {H : Hp} {Q Q' : VK} (h : rdE Y ER W X c σ H Q) (f : ∀ v H', Q v H' → Q' v H') : rdE Y ER W X c σ H Q' := by
  obtain ⟨J, M, e, hd, sl, h⟩ := h
  exact ⟨J, M, e, hd, sl, h.imp fun a M' J' H' _ _ q v r => f _ _ (q v r)⟩
theorem PE.imp {e : Expr} {t t' : TE} (h : PE X e t) (f : ∀ σ H Q, t' σ H Q → t σ H Q) : PE X e t' := ⟨fun pins s σ H Q I q => h.run pins s σ H Q I (f σ H Q q)⟩
theorem PT.imp {e : Expr} {t t' : TT} (h : PT X e t) (f : ∀ σ H Q, t' σ H Q → t σ H Q) : PT X e t' := ⟨fun pins s σ H Q I q => h.run pins s σ H Q I (f σ H Q q)⟩
theorem PA.imp {e : List Expr} {t t' : TA} (h : PA X e t) (f : ∀ σ H Q, t' σ H Q → t σ H Q) : PA X e t' := ⟨fun pos pins s σ H Q I q => h.run pos pins s σ H Q I (f σ H Q q)⟩
/-- one evaluation ahead of others: its value is shared -/
theorem rd_seq {α : Type} {c : C} {σ : L2.St} {H : Hp} {J : Jt} {M : Mem} {e : MP.Env} {f : D × Bool → MM α} {post : α → Mem → Jt → Hp → Prop} {Q1 : VK} (hd : Hold X.K X.w J M H) (sl : Slots X.K X.w J H σ e)
    (h : ResG X ER W σ J H (MM.bind (den Y c e) f M) post)
    (k : ∀ x M1 J1 H1 v, Go J H J1 H1 → Hold X.K X.w J1 M1 H1 → Slots X.K X.w J1 H1 σ e → Rep X.K X.w J1 v x.1 → ResG X ER W σ J1 H1 (f x M1) post → Q1 v H1) : rdE Y ER W X c σ H Q1 := by
  refine ⟨J, M, e, hd, sl, ?_⟩
  unfold MM.bind at h
  cases q : den Y c e M with
  | ok x M1 =>
    rw [q] at h
    intro J1 H1 g hd1 v r
    obtain ⟨J2, g2, hd2, r2⟩ := r.share g hd1
    exact k x M1 J2 H1 v g2 hd2 (sl.go g2) r2 (ResG.shift h g2)
  | exc c p M1 => rw [q] at h; exact h
  | bad => rw [q] at h; exact h
theorem rd_seqB {α : Type} {c : C} {σ : L2.St} {H : Hp} {J : Jt} {M : Mem} {e : MP.Env} {f : D × Bool → MM α} {post : α → Mem → Jt → Hp → Prop} {Q1 : VK} (hd : Hold X.K X.w J M H) (sl : Slots X.K X.w J H σ e)
    (h : ResG X ER W σ J H (MM.bind (den Y c e) f M) post)
    (k : ∀ x M1 J1 H1 v, Go J H J1 H1 → Hold X.K X.w J1 M1 H1 → Slots X.K X.w J1 H1 σ e → RepB X.K X.w J1 H1 v x.1 → ResG X ER W σ J1 H1 (f x M1) post → Q1 v H1) : rdB Y ER W X c σ H Q1 := by
  refine ⟨J, M, e, hd, sl, ?_⟩
  unfold MM.bind at h
  cases q : den Y c e M with
  | ok x M1 =>
    rw [q] at h
    intro J1 H1 g hd1 v r
    exact k x M1 J1 H1 v g hd1 (sl.go g) r (ResG.shift h g)
  | exc c p M1 => rw [q] at h; exact h
  | bad => rw [q] at h; exact h
theorem rd_seqT {α : Type} {c : C} {σ : L2.St} {H : Hp} {J : Jt} {M : Mem} {e : MP.Env} {f : D × Bool → MM α} {post : α → Mem → Jt → Hp → Prop} {Q1 : Bool → Hp → Prop} (hd : Hold X.K X.w J M H) (sl : Slots X.K X.w J H σ e)
    (h : ResG X ER W σ J H (MM.bind (den Y c e) f M) post)
    (hb : ∀ x M1, (∀ b, x.1 ≠ .bl b) → f x M1 = .bad)
    (k : ∀ b o M1 J1 H1, Go J H J1 H1 → Hold X.K X.w J1 M1 H1 → Slots X.K X.w J1 H1 σ e → ResG X ER W σ J1 H1 (f (.bl b, o) M1) post → Q1 b H1) : rdT Y ER W X c σ H Q1 := by
  refine ⟨J, M, e, hd, sl, ?_⟩
  unfold MM.bind at h
  cases q : den Y c e M with
  | ok x M1 =>
    rw [q] at h
    intro J1 H1 g hd1
    have h' : ResG X ER W σ J H (f x M1) post := h
    obtain ⟨d, o⟩ := x
    cases d with
    | bl b => exact ⟨b, rfl, k b o M1 J1 H1 g hd1 (sl.go g) (h'.shift g)⟩
    | _ => rw [hb _ M1 (fun b z => by cases z)] at h'; exact h'.elim
  | exc c p M1 => rw [q] at h; exact h
  | bad => rw [q] at h; exact h
/-- a last step that has its answer -/
theorem orBad_some {α : Type} {o : Option α} {σ : L2.St} {J : Jt} {H : Hp} {M : Mem} {post : α → Mem → Jt → Hp → Prop} (h : ResG X ER W σ J H (orBad o M) post) (hd : Hold X.K X.w J M H) : ∃ a, o = some a ∧ ∀ J' H', Go J H J' H' → Hold X.K X.w J' M H' → post a M J' H' := by
  cases o with
  | none => exact h.elim
  | some a => exact ⟨a, rfl, h⟩
theorem RepO.back {J J1 : Jt} {H H1 H' : Hp} {v : V} {d : D} {own : Bool} {J' : Jt} (r : RepO X.K X.w J' H1 H' v d own) (g : Go J H J1 H1) : RepO X.K X.w J' H H' v d own := by
  cases own with
  | false => exact r
  | true =>
    obtain ⟨a, e, hn, h⟩ := r
    refine ⟨a, e, none_of_not fun z => ?_, h⟩
    have := g.keepR a z
    rw [hn] at this; cases this
end
end MP
end

section
set_option linter.all false
set_option Elab.async false
set_option maxRecDepth 100000
set_option maxHeartbeats 4000000
namespace MP
open PySem PySem.Spec PyProof.Rows L2
section
variable {S : Cs} {Y : Ctx} {ER : ExR} {k : Nat} {W : WX} {X : Cx}
theorem findIdx_get {l : List Str} {x : Str} {i : Nat} (h : l.findIdx? (· == x) = some i) : l[i]? = some x := by
  have h2 := List.findIdx?_eq_some_iff_getElem.mp h
  obtain ⟨hi, e, _⟩ := h2
  have e' : l[i] = x := by simpa using e
  rw [List.getElem?_eq_getElem hi, e']
theorem slot_get {x : Str} {i : Nat} (ok : XOk S Y ER k W X) (h : slot S x = some i) : X.N[i]? = some x ∧ Vis X.env.scope x := by
  unfold slot at h
  have ix : ∀ (kd : NameKind), S.sc.names.lookup x = some kd → (kd = .local ∨ kd = .cell ∨ kd = .free) → S.N.findIdx? (· == x) = some i → X.N[i]? = some x ∧ Vis X.env.scope x := by
    intro kd hk hkd hi
    refine ⟨by rw [ok.N]; exact findIdx_get hi, ?_⟩
    rcases ok.sc x kd hk with h | ⟨e, h⟩
    · rcases hkd with rfl | rfl | rfl
      · exact .inl h
      · exact .inr (.inl h)
      · exact .inr (.inr h)
    · exact .inr (.inl h)
  split at h
  · exact ix _ (by assumption) (.inl rfl) h
  · exact ix _ (by assumption) (.inr (.inl rfl)) h
  · exact ix _ (by assumption) (.inr (.inr rfl)) h
  · cases h
theorem gl_of {x : Str} (ok : XOk S Y ER k W X) (h : isGl S x = true) : Gl X x := by
  have h' : S.sc.names.lookup x = some .globalImplicit := by simpa [isGl] using h
  rcases ok.sc x _ h' with h | ⟨e, _⟩
  · exact h
  · cases e
theorem tC_of {c : V} {d : D} {cc : C} {σ : L2.St} {H : Hp} {Q : VK} (hden : ∀ e M, den Y cc e M = .ok (d, false) M) (r : ∀ J, Rep X.K X.w J c d) (h : rdE Y ER W X cc σ H Q) : tC c σ H Q := by
  obtain ⟨J, M, e, hd, sl, h⟩ := h
  rw [hden] at h
  exact h J H (.refl J H) hd c (r J)
theorem nostar {e : Expr} {n : Nat} {c : C} (h : cE n S e = some c) : ∀ rest env, starEach (e :: rest) env = (false, eval e env) :: starEach rest env := by
  intro rest env
  cases e <;> first | rfl | skip
  cases n <;> simp [cE] at h
theorem nostarB {e : Expr} {n : Nat} {c : C} (h : cB n S e = some c) : ∀ rest env, starEach (e :: rest) env = (false, eval e env) :: starEach rest env := by
  intro rest env
  cases e <;> first | rfl | skip
  cases n with
  | zero => simp [cB] at h
  | succ n => cases n <;> simp [cB, cE] at h
theorem nomark' {e : Expr} {op : CmpOp} {n : Nat} {c : C} (h : cB n S e = some c) : behindInMarks op e = false := by
  cases e <;> first | rfl | skip
  cases n with
  | zero => simp [cB] at h
  | succ n => cases n <;> simp [cB, cE] at h
theorem plainix {e : Expr} {n : Nat} {c : C} (h : cE n S e = some c) : PlainIx e := by
  intro o i
  cases e <;> first | rfl | skip
  cases n <;> simp [cE] at h
/-- no starred items -/
def NoStar (es : List Expr) : Prop := ∀ env, starEach es env = es.map fun e => (false, eval e env)
theorem NoStar.nil : NoStar [] := fun _ => rfl
theorem NoStar.cons {e : Expr} {es : List Expr} (h : ∀ rest env, starEach (e :: rest) env = (false, eval e env) :: starEach rest env) (t : NoStar es) : NoStar (e :: es) := fun env => by rw [h, t]; rfl
theorem NoStar.tail {e : Expr} {es : List Expr} (h : NoStar (e :: es)) : NoStar es := fun env => by
  have := h env
  cases e <;> first | exact (List.cons.inj this).2 | skip
theorem NoStar.head {e : Expr} {es : List Expr} (h : NoStar (e :: es)) (env : PySem.Env) : starEach (e :: es) env = (false, eval e env) :: starEach es env := by rw [h, h.tail]; rfl
theorem NoStar.back {es : List Expr} (h : NoStar es) (pos : Pos) (env : PySem.Env) : (backTo pos (starEach es env)).any (·.1) = false := by
  rw [h]
  simp [backTo]
/-- what holds of the reader's answers at n -/
structure Snd (Y : Ctx) (ER : ExR) (n : Nat) : Prop where
  e : ∀ S e c k W X, cE n S e = some c → XOk S Y ER k W X → PE X e (rdE Y ER W X c)
  t : ∀ S e c k W X, cE n S e = some c → XOk S Y ER k W X → PT X e (rdT Y ER W X c)
  b : ∀ S e c k W X, cB n S e = some c → XOk S Y ER k W X → PE X e (rdB Y ER W X c)
  o : ∀ S (e : Option Expr) c k W X, cO n S e = some c → XOk S Y ER k W X → (e = none ∧ c = .non) ∨ ∃ e', e = some e' ∧ c ≠ .non ∧ PE X e' (rdE Y ER W X c)
  bl : ∀ S o es c pos k W X, cBool n S o es = some c → XOk S Y ER k W X → PE X (.BoolOp o es pos) (rdE Y ER W X c) ∧ PW X (.BoolOp o es pos) (rdT Y ER W X c)
  es : ∀ S es cs k W X, cEs n S es = some cs → XOk S Y ER k W X → PA X es (rdL Y ER W X cs) ∧ NoStar es
  kw : ∀ S kws kvs k W X, cKw n S kws = some kvs → XOk S Y ER k W X → PK X kws (rdL Y ER W X (kvs.map (·.2))) ∧ ∀ env, ∃ ts, keywordEach kws env = (kvs.map (·.1)).zipWith (fun x t => (some x, t)) ts ∧ ts.length = kvs.length
theorem rdE_B {c : C} {σ : L2.St} {H : Hp} {Q : VK} (h : rdB Y ER W X c σ H Q) : rdE Y ER W X c σ H Q := by
  obtain ⟨J, M, e, hd, sl, h⟩ := h
  exact ⟨J, M, e, hd, sl, h.imp fun a M' J' H' _ _ q v r => q v r.B⟩
theorem ans_of {J : Jt} {M : Mem} {H H0 : Hp} {J0 : Jt} {d : D} {own : Bool} {Q : VK} {M' : Mem} (g : Go J0 H0 J H) (h : ∀ J' H', Go J H J' H' → Hold X.K X.w J' M H' → ∀ v, RepO X.K X.w J' H0 H' v d own → Q v H') : Ans X J M H d own Q :=
  fun v H' J' g' hd' r => h J' H' g' hd' v (r.back g)
theorem e_bin {a b : Expr} {op : Operator} {o : BOp} {ca cb : C} {pos : Pos} (ho : cOp op = some o) (ha : PE X a (rdE Y ER W X ca)) (hb : PE X b (rdE Y ER W X cb)) : PE X (.BinOp a op b pos) (rdE Y ER W X (.bin o ca cb)) := by
  refine PE.imp (pe_op (opBin ho) ha hb) fun σ H Q h => ?_
  obtain ⟨J, M, e, hd, sl, h⟩ := h
  rw [show den Y (.bin o ca cb) e = _ from rfl] at h
  refine rd_seq hd sl h fun x M1 J1 H1 v g1 hd1 sl1 r1 h1 => ?_
  refine rd_seq hd1 sl1 h1 fun y M2 J2 H2 u g2 hd2 sl2 r2 h2 => ?_
  obtain ⟨a', e', q⟩ := orBad_some h2 hd2
  obtain ⟨d, ed, rfl⟩ := Option.map_eq_some_iff.mp e'
  exact ⟨J2, M2, x.1, y.1, d, hd2, r1.ext g2.ext, r2, ed, ans_of (M' := M) (g1.trans g2) q⟩
theorem e_chain {a b c : Expr} {op op' : CmpOp} {o o' : COp} {ca cb cc : C} {pos : Pos} (ho : cCmp op = some o) (ho' : cCmp op' = some o') (hu : X.A.units + 66 < cLine) (ha : PE X a (rdE Y ER W X ca)) (hb : PE X b (rdE Y ER W X cb)) (hc : PE X c (rdE Y ER W X cc))
    (hm : lastMarks [op, op'] [b, c] = false) :
    PE X (.Compare a [op, op'] [b, c] pos) (rdE Y ER W X (.chain o o' ca cb cc)) ∧ PT X (.Compare a [op, op'] [b, c] pos) (rdT Y ER W X (.chain o o' ca cb cc)) := by
  constructor
  · refine PE.imp (pe_chain (opCmp ho hu) (opCmp ho' hu) ha hb hc hm) fun σ H Q h => ?_
    obtain ⟨J, M, e, hd, sl, h⟩ := h
    rw [show den Y (.chain o o' ca cb cc) e = _ from rfl] at h
    refine rd_seq hd sl h fun x M1 J1 H1 v g1 hd1 sl1 r1 h1 => ?_
    refine rd_seq hd1 sl1 h1 fun y M2 J2 H2 u g2 hd2 sl2 r2 h2 => ?_
    cases q : cmpO o x.1 y.1 with
    | none => simp only [q] at h2; exact h2.elim
    | some d =>
      simp only [q] at h2
      refine ⟨J2, M2, x.1, y.1, d, hd2, .inl (r1.ext g2.ext), .inl r2, q, d, rfl, ?_⟩
      cases d with
      | true =>
        rw [if_pos rfl]
        refine rd_seq hd2 sl2 h2 fun z M3 J3 H3 t g3 hd3 sl3 r3 h3 => ?_
        obtain ⟨a', e', q⟩ := orBad_some h3 hd3
        obtain ⟨d, ed, rfl⟩ := Option.map_eq_some_iff.mp e'
        exact ⟨J3, M3, y.1, z.1, d, hd3, .inl (r2.ext g3.ext), .inl r3, ed, q J3 H3 (.refl _ _) hd3 _ (.bl d)⟩
      | false =>
        rw [if_neg Bool.false_ne_true]
        exact h2 J2 H2 (.refl _ _) hd2 _ (.bl _)
  · refine PT.imp (pt_chain (opCmp ho hu) (opCmp ho' hu) ha hb hc hm) fun σ H Q h => ?_
    obtain ⟨J, M, e, hd, sl, h⟩ := h
    rw [show den Y (.chain o o' ca cb cc) e = _ from rfl] at h
    refine rd_seq hd sl h fun x M1 J1 H1 v g1 hd1 sl1 r1 h1 => ?_
    refine rd_seq hd1 sl1 h1 fun y M2 J2 H2 u g2 hd2 sl2 r2 h2 => ?_
    cases q : cmpO o x.1 y.1 with
    | none => simp only [q] at h2; exact h2.elim
    | some d =>
      simp only [q] at h2
      refine ⟨J2, M2, x.1, y.1, d, hd2, .inl (r1.ext g2.ext), .inl r2, q, d, rfl, ?_⟩
      cases d with
      | true =>
        rw [if_pos rfl]
        refine rd_seq hd2 sl2 h2 fun z M3 J3 H3 t g3 hd3 sl3 r3 h3 => ?_
        obtain ⟨a', e', q⟩ := orBad_some h3 hd3
        obtain ⟨d, ed, rfl⟩ := Option.map_eq_some_iff.mp e'
        obtain ⟨b, eb, q⟩ := q J3 H3 (.refl _ _) hd3
        cases eb
        exact ⟨J3, M3, y.1, z.1, _, hd3, .inl (r2.ext g3.ext), .inl r3, ed, _, rfl, q⟩
      | false =>
        rw [if_neg Bool.false_ne_true]
        obtain ⟨b, eb, q⟩ := h2 J2 H2 (.refl _ _) hd2
        cases eb
        exact ⟨_, rfl, q⟩
/-- a value's test where isTrue asks the value -/
theorem t_val {e : Expr} {c : C} (h : PE X e (rdE Y ER W X c)) (he : ∀ whole, isTrue e X.env whole = (do let v ← whole; standAt e.pos; holding [v] (truthy v))) : PT X e (rdT Y ER W X c) := by
  refine PT.imp (pt_val h he) fun σ H Q h => ?_
  obtain ⟨J, M, e, hd, sl, h⟩ := h
  refine ⟨J, M, e, hd, sl, h.imp fun a M' J' H' _ _ q v r => ?_⟩
  obtain ⟨b, eb, q⟩ := q
  obtain ⟨d, o⟩ := a
  cases eb
  cases o with
  | false => cases r; exact ⟨b, rfl, q⟩
  | true => obtain ⟨a, _, _, o, _, _, _, r⟩ := r; cases r
end
end MP
end

section
set_option linter.all false
set_option Elab.async false
set_option maxRecDepth 100000
set_option maxHeartbeats 4000000
namespace MP
open PySem PySem.Spec PyProof.Rows L2
section
variable {S : Cs} {Y : Ctx} {ER : ExR} {k : Nat} {W : WX} {X : Cx}
theorem clsAt_some {K : PySem.W.Frag} {c : Nat} {C : Addr} {x : Str} (h : clsAt K c = some C) (hx : clsNm[c]? = some x) : PySem.W.nsIn K mainGlobals x = some (some (.ref C)) := by
  unfold clsAt at h
  obtain ⟨t, ht, h⟩ := Option.bind_eq_some_iff.mp h
  have : t.1 = x := by
    unfold clsNm at hx
    rw [List.getElem?_map, ht] at hx
    exact Option.some.inj hx
  rw [this] at h
  split at h
  · rename_i e; cases h; exact e
  · cases h
theorem e_const {e : Expr} {c : C} {n : Nat} {cst : Const} {j : Nat} {pos : Pos} (h : cE (n + 1) S (.Constant cst j pos) = some c) : PE X (.Constant cst j pos) (rdE Y ER W X c) ∧ PT X (.Constant cst j pos) (rdT Y ER W X c) := by
  have main : PE X (.Constant cst j pos) (rdE Y ER W X c) := by
    cases cst <;> simp only [cE, Option.some.injEq, reduceCtorEq] at h
    · subst h
      exact PE.imp pe_non fun σ H Q h => tC_of (fun e M => rfl) (fun J => .non) h
    · subst h
      exact PE.imp pe_bl fun σ H Q h => tC_of (fun e M => rfl) (fun J => .bl _) h
    · subst h
      exact PE.imp pe_int fun σ H Q h => tC_of (fun e M => rfl) (fun J => .int _) h
    · split at h
      · rename_i x hx
        simp only [Bool.and_eq_true, decide_eq_true_eq, List.all_eq_true] at hx
        cases h
        refine PE.imp pe_str fun σ H Q h => tC_of (fun e M => rfl) (fun J => ?_) h
        have := Rep.str (K := X.K) (w := X.w) (J := J) (txt x) (by simpa [txt] using hx.2) (fun c hc => of_decide_eq_true (by simpa using hx.1 c hc))
        rw [show sOf (txt x) = x from sOf_of x] at this
        exact this
      · cases h
  exact ⟨main, t_val main (fun _ => rfl)⟩
theorem e_name {x : Str} {c : C} {n : Nat} {pos : Pos} (ok : XOk S Y ER k W X) (h : cE (n + 1) S (.Name x pos) = some c) : PE X (.Name x pos) (rdE Y ER W X c) ∧ PT X (.Name x pos) (rdT Y ER W X c) := by
  have main : PE X (.Name x pos) (rdE Y ER W X c) := by
    simp only [cE] at h
    split at h
    · rename_i hg
      cases hcl : S.clss.lookup x with
      | some cc =>
        rw [hcl] at h
        cases h
        obtain ⟨hdb, hcn, C, hC, hm, _⟩ := ok.G.clsn x cc hcl
        have hns := (clsAt_some hC hcn)
        exact PE.imp (pe_glob (gl_of ok hg) hm (v := .ref C) rfl hdb) fun σ H Q h => tC_of (fun e M => rfl) (fun J => .cls hcn hns) h
      | none =>
      rw [hcl] at h
      obtain ⟨i, hi, rfl⟩ := Option.map_eq_some_iff.mp h
      refine ⟨fun pins s σ H Q I q => ?_⟩
      obtain ⟨J, M, e, hd, sl, q⟩ := q
      have q' : ResG X ER W σ J H (orBad ((Y.G i).map fun d => (d, false)) M) fun x _ J' H' => ∀ v, RepO X.K X.w J' H H' v x.1 x.2 → Q v H' := q
      obtain ⟨a, ea, q⟩ := orBad_some q' hd
      obtain ⟨d, ed, rfl⟩ := Option.map_eq_some_iff.mp ea
      obtain ⟨hdb, u, v, hm, rv, hr⟩ := ok.glob x i d hi ed
      exact (pe_glob (gl_of ok hg) hm rv hdb).run pins s σ H Q I (q J H (.refl _ _) hd v (hr J))
    · obtain ⟨i, hi, rfl⟩ := Option.map_eq_some_iff.mp h
      obtain ⟨h1, h2⟩ := slot_get ok hi
      have hx : x ∈ S.N := by rw [ok.N] at h1; exact List.mem_of_getElem? h1
      refine PE.imp (pe_var h1 h2 (ok.nodb x hx).1 (ok.nodb x hx).2) fun σ H Q h => ?_
      obtain ⟨J, M, e, hd, sl, h⟩ := h
      simp only [den] at h
      cases he : e[i]? with
      | none => rw [he] at h; exact h.elim
      | some o =>
        cases o with
        | none => rw [he] at h; exact h.elim
        | some p =>
          obtain ⟨d, own⟩ := p
          cases own with
          | true => rw [he] at h; exact h.elim
          | false =>
            rw [he] at h
            obtain ⟨v, hv, r⟩ := sl.sh i d he
            exact ⟨v, hv, h J H (.refl _ _) hd v r⟩
  exact ⟨main, t_val main (fun _ => rfl)⟩
theorem b_name {x : Str} {c : C} {n : Nat} {pos : Pos} (ok : XOk S Y ER k W X) (h : (slot S x).map C.bvar = some c) : PE X (.Name x pos) (rdB Y ER W X c) := by
  obtain ⟨i, hi, rfl⟩ := Option.map_eq_some_iff.mp h
  obtain ⟨h1, h2⟩ := slot_get ok hi
  have hx : x ∈ S.N := by rw [ok.N] at h1; exact List.mem_of_getElem? h1
  refine PE.imp (pe_var h1 h2 (ok.nodb x hx).1 (ok.nodb x hx).2) fun σ H Q h => ?_
  obtain ⟨J, M, e, hd, sl, h⟩ := h
  simp only [den] at h
  cases he : e[i]? with
  | none => rw [he] at h; exact h.elim
  | some o =>
    cases o with
    | none => rw [he] at h; exact h.elim
    | some p =>
      obtain ⟨d, own⟩ := p
      rw [he] at h
      cases own with
      | false => obtain ⟨v, hv, r⟩ := sl.sh i d he; exact ⟨v, hv, h J H (.refl _ _) hd v (.inl r)⟩
      | true => obtain ⟨a, hv, r⟩ := sl.own i d he; exact ⟨_, hv, h J H (.refl _ _) hd _ (.inr ⟨a, rfl, r⟩)⟩
theorem e_neg {a : Expr} {ca : C} {pos : Pos} (ha : PE X a (rdE Y ER W X ca)) : PE X (.UnaryOp .USub a pos) (rdE Y ER W X (.neg ca)) := by
  refine PE.imp (pe_un un_neg ha) fun σ H Q h => ?_
  obtain ⟨J, M, e, hd, sl, h⟩ := h
  rw [show den Y (.neg ca) e = _ from rfl] at h
  refine rd_seq hd sl h fun x M1 J1 H1 v g1 hd1 sl1 r1 h1 => ?_
  obtain ⟨d, o⟩ := x
  cases d <;> first | exact h1.elim | skip
  cases r1
  exact ⟨_, rfl, h1 J1 H1 (.refl _ _) hd1 _ (.int _)⟩
theorem e_not {a : Expr} {ca : C} {pos : Pos} (ha : PE X a (rdE Y ER W X ca)) (ta : PT X a (rdT Y ER W X ca)) : PE X (.UnaryOp .Not a pos) (rdE Y ER W X (.not ca)) ∧ PT X (.UnaryOp .Not a pos) (rdT Y ER W X (.not ca)) := by
  constructor
  · refine PE.imp (pe_not ha) fun σ H Q h => ?_
    obtain ⟨J, M, e, hd, sl, h⟩ := h
    rw [show den Y (.not ca) e = _ from rfl] at h
    refine rd_seq hd sl h fun x M1 J1 H1 v g1 hd1 sl1 r1 h1 => ?_
    obtain ⟨d, o⟩ := x
    cases d <;> first | exact h1.elim | skip
    cases r1
    exact ⟨_, rfl, h1 J1 H1 (.refl _ _) hd1 _ (.bl _)⟩
  · refine PT.imp (pt_not ta) fun σ H Q h => ?_
    obtain ⟨J, M, e, hd, sl, h⟩ := h
    rw [show den Y (.not ca) e = _ from rfl] at h
    refine rd_seqT hd sl h (fun x M1 hx => ?_) fun b o M1 J1 H1 g1 hd1 sl1 h1 => ?_
    · obtain ⟨d, o⟩ := x
      cases d <;> first | rfl | exact absurd rfl (hx _)
    · obtain ⟨c, ec, q⟩ := h1 J1 H1 (.refl _ _) hd1
      cases ec; exact q
theorem e_ite {t a b : Expr} {ct ca cb : C} {pos : Pos} (tt : PT X t (rdT Y ER W X ct)) (ha : PE X a (rdE Y ER W X ca)) (hb : PE X b (rdE Y ER W X cb)) (ta : PT X a (rdT Y ER W X ca)) (tb : PT X b (rdT Y ER W X cb)) :
    PE X (.IfExp t a b pos) (rdE Y ER W X (.ite ct ca cb)) ∧ PT X (.IfExp t a b pos) (rdT Y ER W X (.ite ct ca cb)) := by
  have hbad : ∀ (e : MP.Env) (x : D × Bool) M1, (∀ b, x.1 ≠ .bl b) → (match x.1 with
      | .bl true => den Y ca e
      | .bl false => den Y cb e
      | _ => bad : MM (D × Bool)) M1 = .bad := by
    intro e x M1 hx
    obtain ⟨d, o⟩ := x
    cases d <;> first | rfl | exact absurd rfl (hx _)
  constructor
  · refine PE.imp (pe_ifExp tt ha hb) fun σ H Q h => ?_
    obtain ⟨J, M, e, hd, sl, h⟩ := h
    rw [show den Y (.ite ct ca cb) e = _ from rfl] at h
    refine rd_seqT hd sl h (hbad e) fun b o M1 J1 H1 g1 hd1 sl1 h1 => ?_
    cases b with
    | true => rw [if_pos rfl]; exact ⟨J1, M1, e, hd1, sl1, h1.imp fun a M' J' H' _ _ q v r => q v (r.back g1)⟩
    | false => rw [if_neg Bool.false_ne_true]; exact ⟨J1, M1, e, hd1, sl1, h1.imp fun a M' J' H' _ _ q v r => q v (r.back g1)⟩
  · refine ⟨fun pins s σ H Q I h => ?_⟩
    obtain ⟨J, M, e, hd, sl, h⟩ := h
    rw [show den Y (.ite ct ca cb) e = _ from rfl] at h
    refine isTrue_IfExp (thn (tt.run pins s σ H (fun b H1 => if b = true then rdT Y ER W X ca σ H1 Q else rdT Y ER W X cb σ H1 Q) I (rd_seqT hd sl h (hbad e) fun b o M1 J1 H1 g1 hd1 sl1 h1 => ?_)) fun b s1 ⟨H1, I1, q⟩ => ?_)
    · cases b with
      | true => rw [if_pos rfl]; exact ⟨J1, M1, e, hd1, sl1, h1⟩
      | false => rw [if_neg Bool.false_ne_true]; exact ⟨J1, M1, e, hd1, sl1, h1⟩
    · cases b with
      | true => exact ta.run pins s1 σ H1 Q I1 q
      | false => exact tb.run pins s1 σ H1 Q I1 q
theorem b1 {a : Expr} {o : BoolOp} {ca : C} {pos : Pos} (ha : PE X a (rdE Y ER W X ca)) (ta : PT X a (rdT Y ER W X ca)) : PE X (.BoolOp o [a] pos) (rdE Y ER W X ca) ∧ PW X (.BoolOp o [a] pos) (rdT Y ER W X ca) :=
  ⟨pe_one ha, by cases o; exact pw_and1 ta; exact pw_or1 ta⟩
theorem b2 {a b : Expr} {rest : List Expr} {o : BoolOp} {ca cb : C} {pos : Pos} (ha : PE X a (rdE Y ER W X ca)) (ta : PT X a (rdT Y ER W X ca)) (hb : PE X (.BoolOp o (b :: rest) pos) (rdE Y ER W X cb)) (tb : PW X (.BoolOp o (b :: rest) pos) (rdT Y ER W X cb)) :
    let c := match o with
      | .And => C.and ca cb
      | .Or => C.or ca cb
    PE X (.BoolOp o (a :: b :: rest) pos) (rdE Y ER W X c) ∧ PW X (.BoolOp o (a :: b :: rest) pos) (rdT Y ER W X c) := by
  have fin : ∀ {σ : L2.St} {J1 : Jt} {H0 H1 : Hp} {J0 : Jt} {M1 : Mem} {e : MP.Env} {Q : VK}, Go J0 H0 J1 H1 → Hold X.K X.w J1 M1 H1 → Slots X.K X.w J1 H1 σ e →
      ResG X ER W σ J1 H1 (MM.bind (den Y cb e) (fun y => match y.1 with
        | .bl c => MM.pure (D.bl c, false)
        | _ => bad) M1) (fun x _ J' H' => ∀ v, RepO X.K X.w J' H0 H' v x.1 x.2 → Q v H') → rdE Y ER W X cb σ H1 Q := by
    intro σ J1 H0 H1 J0 M1 e Q g1 hd1 sl1 h1
    refine ⟨J1, M1, e, hd1, sl1, ?_⟩
    unfold MM.bind at h1
    cases q : den Y cb e M1 with
    | ok x M2 =>
      rw [q] at h1
      intro J2 H2 g2 hd2 v r
      obtain ⟨d, o⟩ := x
      cases d <;> first | exact h1.elim | skip
      have := h1 J2 H2 g2 hd2 v
      cases o with
      | false => exact this r
      | true => obtain ⟨a, _, _, o, _, _, _, r⟩ := r; cases r
    | exc c p M2 => rw [q] at h1; exact h1
    | bad => rw [q] at h1; exact h1
  have finT : ∀ {σ : L2.St} {J1 : Jt} {H0 H1 : Hp} {J0 : Jt} {M1 : Mem} {e : MP.Env} {Q : Bool → Hp → Prop}, Go J0 H0 J1 H1 → Hold X.K X.w J1 M1 H1 → Slots X.K X.w J1 H1 σ e →
      ResG X ER W σ J1 H1 (MM.bind (den Y cb e) (fun y => match y.1 with
        | .bl c => MM.pure (D.bl c, false)
        | _ => bad) M1) (fun x _ J' H' => ∃ b, x.1 = .bl b ∧ Q b H') → rdT Y ER W X cb σ H1 Q := by
    intro σ J1 H0 H1 J0 M1 e Q g1 hd1 sl1 h1
    refine rd_seqT hd1 sl1 h1 (fun x M1 hx => ?_) fun b o M1 J1 H1 g1 hd1 sl1 h1 => ?_
    · obtain ⟨d, o⟩ := x
      cases d <;> first | rfl | exact absurd rfl (hx _)
    · obtain ⟨c, ec, q⟩ := h1 J1 H1 (.refl _ _) hd1
      cases ec; exact q
  cases o with
  | And =>
    constructor
    · refine PE.imp (pe_and ha hb) fun σ H Q h => ?_
      obtain ⟨J, M, e, hd, sl, h⟩ := h
      rw [show den Y (.and ca cb) e = _ from rfl] at h
      refine rd_seq hd sl h fun x M1 J1 H1 v g1 hd1 sl1 r1 h1 => ?_
      obtain ⟨d, o⟩ := x
      cases d <;> first | exact h1.elim | skip
      rename_i b
      cases r1
      refine ⟨b, rfl, ?_⟩
      cases b with
      | true => rw [if_pos rfl]; exact fin g1 hd1 sl1 h1
      | false => rw [if_neg Bool.false_ne_true]; exact h1 J1 H1 (.refl _ _) hd1 _ (.bl _)
    · refine ⟨fun wh pins s σ H Q I h => (pw_and ta tb).run wh pins s σ H Q I ?_⟩
      obtain ⟨J, M, e, hd, sl, h⟩ := h
      rw [show den Y (.and ca cb) e = _ from rfl] at h
      refine rd_seqT hd sl h (fun x M1 hx => ?_) fun b o M1 J1 H1 g1 hd1 sl1 h1 => ?_
      · obtain ⟨d, o⟩ := x
        cases d <;> first | rfl | exact absurd rfl (hx _)
      · cases b with
        | true => rw [if_pos rfl]; exact finT g1 hd1 sl1 h1
        | false =>
          rw [if_neg Bool.false_ne_true]
          obtain ⟨c, ec, q⟩ := h1 J1 H1 (.refl _ _) hd1
          cases ec; exact q
  | Or =>
    constructor
    · refine PE.imp (pe_or ha hb) fun σ H Q h => ?_
      obtain ⟨J, M, e, hd, sl, h⟩ := h
      rw [show den Y (.or ca cb) e = _ from rfl] at h
      refine rd_seq hd sl h fun x M1 J1 H1 v g1 hd1 sl1 r1 h1 => ?_
      obtain ⟨d, o⟩ := x
      cases d <;> first | exact h1.elim | skip
      rename_i b
      cases r1
      refine ⟨b, rfl, ?_⟩
      cases b with
      | false => rw [if_neg Bool.false_ne_true]; exact fin g1 hd1 sl1 h1
      | true => rw [if_pos rfl]; exact h1 J1 H1 (.refl _ _) hd1 _ (.bl _)
    · refine ⟨fun wh pins s σ H Q I h => (pw_or ta tb).run wh pins s σ H Q I ?_⟩
      obtain ⟨J, M, e, hd, sl, h⟩ := h
      rw [show den Y (.or ca cb) e = _ from rfl] at h
      refine rd_seqT hd sl h (fun x M1 hx => ?_) fun b o M1 J1 H1 g1 hd1 sl1 h1 => ?_
      · obtain ⟨d, o⟩ := x
        cases d <;> first | rfl | exact absurd rfl (hx _)
      · cases b with
        | false => rw [if_neg Bool.false_ne_true]; exact finT g1 hd1 sl1 h1
        | true =>
          rw [if_pos rfl]
          obtain ⟨c, ec, q⟩ := h1 J1 H1 (.refl _ _) hd1
          cases ec; exact q
end
end MP
end

section
set_option linter.all false
set_option Elab.async false
set_option maxRecDepth 100000
set_option maxHeartbeats 4000000
namespace MP
open PySem PySem.Spec PyProof.Rows L2
section
variable {S : Cs} {Y : Ctx} {ER : ExR} {k : Nat} {W : WX} {X : Cx}
theorem denL_len : ∀ {cs : List C} {e : MP.Env} {M M' : Mem} {ds : List D}, denL Y cs e M = .ok ds M' → ds.length = cs.length
  | [], e, M, M', ds, h => by
    simp only [denL, MM.pure, R.ok.injEq] at h
    rw [← h.1]; rfl
  | c :: cs, e, M, M', ds, h => by
    simp only [denL, MM.bind] at h
    cases q : den Y c e M with
    | ok x M1 =>
      rw [q] at h
      simp only at h
      cases q2 : denL Y cs e M1 with
      | ok xs M2 =>
        rw [q2] at h
        simp only [MM.pure, R.ok.injEq] at h
        rw [← h.1]
        simp [denL_len q2]
      | exc c p M2 => rw [q2] at h; cases h
      | bad => rw [q2] at h; cases h
    | exc c p M2 => rw [q] at h; cases h
    | bad => rw [q] at h; cases h
theorem cEs_len : ∀ {n : Nat} {es : List Expr} {cs : List C}, cEs n S es = some cs → cs.length = es.length ∧ es.length < n
  | 0, _, _, h => by simp [cEs] at h
  | n + 1, [], cs, h => by simp [cEs] at h; subst h; exact ⟨rfl, by simp⟩
  | n + 1, e :: es, cs, h => by
    simp only [cEs] at h
    obtain ⟨a, _, h⟩ := Option.bind_eq_some_iff.mp h
    obtain ⟨r, hr, rfl⟩ := Option.map_eq_some_iff.mp h
    obtain ⟨h1, h2⟩ := cEs_len hr
    exact ⟨by simp [h1], by simp; omega⟩
theorem a_nil : PA X [] (rdL Y ER W X []) := PA.imp pa_nil fun σ H Q h => by
  obtain ⟨J, M, e, hd, sl, h⟩ := h
  exact h J H (.refl _ _) hd [] .nil
theorem a_cons {a : Expr} {es : List Expr} {c : C} {cs : List C} (ha : PE X a (rdE Y ER W X c)) (he : PA X es (rdL Y ER W X cs)) (hs : starEach (a :: es) X.env = (false, eval a X.env) :: starEach es X.env) : PA X (a :: es) (rdL Y ER W X (c :: cs)) := by
  refine PA.imp (pa_cons ha he hs) fun σ H Q h => ?_
  obtain ⟨J, M, e, hd, sl, h⟩ := h
  rw [show denL Y (c :: cs) e = _ from rfl] at h
  refine rd_seq hd sl h fun x M1 J1 H1 v g1 hd1 sl1 r1 h1 => ?_
  refine ⟨J1, M1, e, hd1, sl1, ?_⟩
  unfold MM.bind at h1
  cases q : denL Y cs e M1 with
  | ok ds M2 =>
    rw [q] at h1
    intro J2 H2 g2 hd2 vs r
    exact h1 J2 H2 g2 hd2 (v :: vs) (.cons (r1.ext g2.ext) r)
  | exc c p M2 => rw [q] at h1; exact h1
  | bad => rw [q] at h1; exact h1
/-- a step behind an argument list -/
theorem rdL_seq {α : Type} {cs : List C} {σ : L2.St} {H : Hp} {J : Jt} {M : Mem} {e : MP.Env} {f : List D → MM α} {post : α → Mem → Jt → Hp → Prop} {Q1 : List V → Hp → Prop} (hd : Hold X.K X.w J M H) (sl : Slots X.K X.w J H σ e)
    (h : ResG X ER W σ J H (MM.bind (denL Y cs e) f M) post)
    (k : ∀ ds M1 J1 H1 vs, Go J H J1 H1 → Hold X.K X.w J1 M1 H1 → Slots X.K X.w J1 H1 σ e → RepL X.K X.w J1 vs ds → ds.length = cs.length → ResG X ER W σ J1 H1 (f ds M1) post → Q1 vs H1) : rdL Y ER W X cs σ H Q1 := by
  refine ⟨J, M, e, hd, sl, ?_⟩
  unfold MM.bind at h
  cases q : denL Y cs e M with
  | ok ds M1 =>
    rw [q] at h
    intro J1 H1 g hd1 vs r
    exact k ds M1 J1 H1 vs g hd1 (sl.go g) r (denL_len q) (ResG.shift h g)
  | exc c p M1 => rw [q] at h; exact h
  | bad => rw [q] at h; exact h
theorem e_tup {es : List Expr} {cs : List C} {j : Nat} {pos : Pos} (he : PA X es (rdL Y ER W X cs)) (hl : cs.length ≤ szLine) : PE X (.Tuple es j pos) (rdE Y ER W X (.tup cs)) := by
  refine PE.imp (pe_tupF he) fun σ H Q h => ?_
  obtain ⟨J, M, e, hd, sl, h⟩ := h
  rw [show den Y (.tup cs) e = _ from rfl] at h
  refine rdL_seq hd sl h fun ds M1 J1 H1 vs g1 hd1 sl1 r1 hn h1 => ⟨by rw [r1.len, hn, ← szLine_eq]; exact hl, Ans.tup (M := M1) (ans_of (M' := M) g1 h1) hd1 r1⟩
theorem e_lst {es : List Expr} {cs : List C} {pos : Pos} (he : PA X es (rdL Y ER W X cs)) (hl : cs.length ≤ szLine) : PE X (.List es pos) (rdE Y ER W X (.lst cs)) := by
  refine PE.imp (pe_lst he) fun σ H Q h => ?_
  obtain ⟨J, M, e, hd, sl, h⟩ := h
  rw [show den Y (.lst cs) e = _ from rfl] at h
  refine rdL_seq hd sl h fun ds M1 J1 H1 vs g1 hd1 sl1 r1 hn h1 => ⟨by rw [r1.len, hn, ← szLine_eq]; exact hl, Ans.lst (M := M1) (ans_of (M' := M) g1 h1) hd1 r1⟩
/-- a list that others will change -/
theorem e_mkmut {es : List Expr} {cs : List C} {pos : Pos} (he : PA X es (rdL Y ER W X cs)) (hl : cs.length ≤ szLine) : PE X (.List es pos) (rdE Y ER W X (.mkmut cs)) := by
  refine PE.imp (pe_lst he) fun σ H Q h => ?_
  obtain ⟨J, M, e, hd, sl, h⟩ := h
  rw [show den Y (.mkmut cs) e = _ from rfl] at h
  refine rdL_seq hd sl h fun ds M1 J1 H1 vs g1 hd1 sl1 r1 hn h1 => ⟨by rw [r1.len, hn, ← szLine_eq]; exact hl, fun p hp => ?_⟩
  have hf := hd1.fresh hp
  let J2 : Jt := ⟨J1.I, J1.ρ ++ [p], J1.C⟩
  have ex : Ext J1 J2 := ⟨fun _ _ h => h, fun n a h => by
    show (J1.ρ ++ [p])[n]? = some a
    rw [List.getElem?_append_left (List.getElem?_eq_some_iff.mp h).1]; exact h, fun _ _ h => h⟩
  have g2 : Go J1 H1 J2 (upd H1 p (.lst vs)) := by
    refine ⟨ex, fun a o h => .inl h, fun a h => ?_, fun a d h => .inl h, fun a u h _ => upd_of hp h, fun a h => ?_⟩
    · rcases List.mem_append.mp h with h | h
      · exact .inl h
      · have : a = p := by simpa using h
        subst this; exact .inr hp
    · obtain ⟨u, e⟩ := Option.isSome_iff_exists.mp h
      rw [upd_of hp e]; rfl
  have hd2 : Hold X.K X.w J2 (M1 ++ [.lst ds]) (upd H1 p (.lst vs)) := by
    refine ⟨fun a u e => upd_of hp (hd1.I a u e), by simp [J2, hd1.len], fun n mo hm => ?_, ?_, fun s d hs => ?_⟩
    · by_cases hn : n < M1.length
      · rw [List.getElem?_append_left hn] at hm
        obtain ⟨a, o, h1, h2, h3, h4⟩ := hd1.m n mo hm
        exact ⟨a, o, ex.ρ n a h1, upd_of hp h2, h3, h4.ext ex⟩
      · rw [List.getElem?_append_right (by omega)] at hm
        have hn2 : n - M1.length = 0 := by
          have := (List.getElem?_eq_some_iff.mp hm).1
          simp at this; omega
        rw [hn2] at hm
        simp at hm
        subst hm
        refine ⟨p, .lst vs, ?_, upd_same, hf.1, vs, rfl, r1.ext ex⟩
        show (J1.ρ ++ [p])[n]? = some p
        have hn3 : n = J1.ρ.length := by rw [← hd1.len]; omega
        subst hn3; simp
    · show (J1.ρ ++ [p]).Nodup
      rw [List.nodup_append]
      exact ⟨hd1.nd, by simp, fun a ha b hb => by
        have : b = p := by simpa using hb
        subst this
        rintro rfl; exact hf.2.1 ha⟩
    · have hs : J1.C s = some d := hs
      obtain ⟨kvs, q1, q2, q3, q4⟩ := hd1.c s d hs
      refine ⟨kvs, upd_of hp q1, q2, fun hm => ?_, q4.ext ex⟩
      rcases List.mem_append.mp hm with hm | hm
      · exact q3 hm
      · have : s = p := by simpa using hm
        subst this
        rw [hf.2.2] at hs; cases hs
  refine h1 J2 _ g2 hd2 _ (.mtb ?_)
  show (J1.ρ ++ [p])[M1.length]? = some p
  rw [hd1.len]; simp
theorem e_idx {a i : Expr} {ca ci : C} {pos : Pos} (hu : X.A.units + 1 < cLine) (ha : PE X a (rdB Y ER W X ca)) (hi : PE X i (rdE Y ER W X ci)) (hp : PlainIx i) : PE X (.Subscript a i pos) (rdE Y ER W X (.idx ca ci)) := by
  refine PE.imp (pe_ix (ixAll hu) ha hi hp) fun σ H Q h => ?_
  obtain ⟨J, M, e, hd, sl, h⟩ := h
  rw [show den Y (.idx ca ci) e = _ from rfl] at h
  refine rd_seqB hd sl h fun x M1 J1 H1 v g1 hd1 sl1 r1 h1 => ?_
  refine rd_seq hd1 sl1 h1 fun y M2 J2 H2 u g2 hd2 sl2 r2 h2 => ?_
  obtain ⟨d, o⟩ := x
  by_cases hm : ∃ n, d = .mtb n
  · obtain ⟨n, rfl⟩ := hm
    have h2' : ResG X ER W σ J2 H2 (match M2[n]? with
      | some (.lst l) => orBad ((idxO (.lst l) y.1).map fun d => (d, false)) M2
      | _ => .bad) (fun x M' J' H' => ∀ v, RepO X.K X.w J' H H' v x.1 x.2 → Q v H') := h2
    cases hq : M2[n]? with
    | none => rw [hq] at h2'; exact h2'.elim
    | some mo =>
      rw [hq] at h2'
      cases mo with
      | lst l =>
        obtain ⟨a', e', q⟩ := orBad_some h2' hd2
        obtain ⟨d, ed, rfl⟩ := Option.map_eq_some_iff.mp e'
        exact ⟨J2, M2, .mtb n, y.1, d, hd2, r1.go g2, r2, by simp only [idxM, hq]; exact ed, fun v r => q J2 H2 (.refl _ _) hd2 v r⟩
  · have h2' : ResG X ER W σ J2 H2 (orBad ((idxO d y.1).map fun d => (d, false)) M2) (fun x M' J' H' => ∀ v, RepO X.K X.w J' H H' v x.1 x.2 → Q v H') := by
      cases d <;> first | exact h2 | exact absurd ⟨_, rfl⟩ hm
    obtain ⟨a', e', q⟩ := orBad_some h2' hd2
    obtain ⟨d', ed, rfl⟩ := Option.map_eq_some_iff.mp e'
    refine ⟨J2, M2, d, y.1, d', hd2, r1.go g2, r2, ?_, fun v r => q J2 H2 (.refl _ _) hd2 v r⟩
    cases d <;> first | exact ed | exact absurd ⟨_, rfl⟩ hm
/-- the parts of a slice -/
def partD : D → Option Int
  | .int i => some i
  | _ => none
theorem sIx_eq {n d : Nat} {p : D} {r : Nat} (h : MP.sIx n d p = some r) : HT.sIx n d (partD p) = r := by
  cases p <;> simp only [MP.sIx, Option.some.injEq, reduceCtorEq] at h
  · exact h
  · exact h
theorem cut_eq {α : Type} {l r : List α} {lo hi : D} (h : cut l lo hi = some r) : r = (l.drop (HT.sIx l.length 0 (partD lo))).take (HT.sIx l.length l.length (partD hi) - HT.sIx l.length 0 (partD lo)) := by
  unfold cut at h
  obtain ⟨a, ha, h⟩ := Option.bind_eq_some_iff.mp h
  obtain ⟨b, hb, h⟩ := Option.map_eq_some_iff.mp h
  rw [sIx_eq ha, sIx_eq hb]; exact h.symm
def rSlc (X : Cx) : V → Option Int → Option Int → Hp → VK → Prop := fun x lo hi H Q => ∃ J M d p1 p2 r, Hold X.K X.w J M H ∧ RepB X.K X.w J H x d ∧ lo = partD p1 ∧ hi = partD p2 ∧ slcO d p1 p2 = some r ∧ Ans X J M H r (match r with | .lst _ => true | _ => false) Q
theorem slAll : SlR X (rSlc X) := by
  intro pins s σ H x v vl vu lo hi sl Q I rx hs pl pu h
  obtain ⟨J, M, d, p1, p2, r, hd, r1, rfl, rfl, e, q⟩ := h
  cases d <;> simp only [slcO, reduceCtorEq] at e
  · obtain ⟨t, ht, rfl⟩ := Option.map_eq_some_iff.mp e
    obtain ⟨rfl, h1, h2⟩ := r1.str
    refine sl_str pins s σ H _ v vl vu _ _ sl Q I rx hs pl pu ⟨_, rfl, by rw [sOf_len, ← szLine_eq]; exact h1, ?_⟩
    have ec := cut_eq ht
    rename_i z
    have : cutS (sOf z) (partD p1) (partD p2) = sOf t := by
      unfold cutS
      rw [sOf_cps, sOf_len, ← ec]; rfl
    rw [this]
    refine q.sh hd (.str t ?_ fun c hc => ?_)
    · rw [ec, List.length_take, List.length_drop]
      exact Nat.le_trans (Nat.min_le_right _ _) (Nat.le_trans (Nat.sub_le _ _) h1)
    · rw [ec] at hc
      exact h2 c (List.mem_of_mem_drop (List.mem_of_mem_take hc))
  · obtain ⟨t, ht, rfl⟩ := Option.map_eq_some_iff.mp e
    have r1' := r1
    obtain ⟨a, xs, rfl, h1, h2⟩ := r1.tup hd
    have ec := cut_eq ht
    refine sl_tupF pins s σ H _ v vl vu _ _ sl Q I rx hs pl pu ⟨a, xs, rfl, h1, fun hw => ?_, fun _ => ?_⟩
    · rw [h2.len] at hw
      have : t = _ := ec
      rw [hw.1, hw.2, Nat.sub_zero, List.drop_zero, List.take_length] at this
      subst this
      rcases r1' with r1 | ⟨_, _, o, _, _, _, r1⟩
      · exact q.sh hd r1
      · cases r1
    · have : RepL X.K X.w J (cutV xs (partD p1) (partD p2)) t := by
        unfold cutV
        rw [ec, h2.len]
        exact (h2.drop _).take _
      exact Ans.tup q hd this
  · obtain ⟨t, ht, rfl⟩ := Option.map_eq_some_iff.mp e
    obtain ⟨a, xs, rfl, h1, h2⟩ := r1.lst hd
    have ec := cut_eq ht
    refine sl_list pins s σ H _ v vl vu _ _ sl Q I rx hs pl pu ⟨a, xs, rfl, SqL.of h1, ?_⟩
    have : RepL X.K X.w J (cutV xs (partD p1) (partD p2)) t := by
      unfold cutV
      rw [ec, h2.len]
      exact (h2.drop _).take _
    exact Ans.lst q hd this
  · rename_i l
    obtain ⟨t, ht, rfl⟩ := Option.map_eq_some_iff.mp e
    have ec := cut_eq ht
    rcases r1 with r1 | ⟨_, _, o, _, _, _, r1⟩
    · cases r1 with
      | scr j =>
        refine sl_list pins s σ H _ v vl vu _ _ sl Q I rx hs pl pu ⟨_, _, rfl, hd.scr j, ?_⟩
        have : RepL X.K X.w J (cutV (l.map V.int) (partD p1) (partD p2)) (t.map .int) := by
          unfold cutV
          rw [ec, List.length_map, ← List.map_drop, ← List.map_take]
          exact RepL.ofInts _
        exact Ans.lst q hd this
    · cases r1
theorem e_slc {a : Expr} {lo hi : Option Expr} {ca cl ch : C} {pos p2 : Pos} (ha : PE X a (rdB Y ER W X ca))
    (hl : (lo = none ∧ cl = .non) ∨ ∃ e', lo = some e' ∧ cl ≠ .non ∧ PE X e' (rdE Y ER W X cl)) (hh : (hi = none ∧ ch = .non) ∨ ∃ e', hi = some e' ∧ ch ≠ .non ∧ PE X e' (rdE Y ER W X ch)) :
    PE X (.Subscript a (.Slice lo hi none p2) pos) (rdE Y ER W X (.slc ca cl ch)) := by
  -- a part's reading
  have part : ∀ {lo : Option Expr} {cl : C}, ((lo = none ∧ cl = .non) ∨ ∃ e', lo = some e' ∧ cl ≠ .non ∧ PE X e' (rdE Y ER W X cl)) →
      ∃ t, PO X lo t ∧ ∀ {α : Type} {σ : L2.St} {H : Hp} {J : Jt} {M : Mem} {e : MP.Env} {f : D × Bool → MM α} {post : α → Mem → Jt → Hp → Prop} {Q1 : Option Int → Hp → Prop}, Hold X.K X.w J M H → Slots X.K X.w J H σ e →
        ResG X ER W σ J H (MM.bind (den Y cl e) f M) post → (∀ x M1, partOk cl x.1 = false → f x M1 = .bad) →
        (∀ x M1 J1 H1, Go J H J1 H1 → Hold X.K X.w J1 M1 H1 → Slots X.K X.w J1 H1 σ e → partOk cl x.1 = true → ResG X ER W σ J1 H1 (f x M1) post → Q1 (partD x.1) H1) → t σ H Q1 := by
    intro lo cl h
    rcases h with ⟨rfl, rfl⟩ | ⟨e', rfl, hne, he⟩
    · exact ⟨_, po_none, fun {α σ H J M e f post Q1} hd sl h _ k => k (.non, false) M J H (.refl _ _) hd sl rfl h⟩
    · refine ⟨_, po_some he, fun {α σ H J M e f post Q1} hd sl h hbad k => rd_seq hd sl h fun x M1 J1 H1 v g1 hd1 sl1 r1 h1 => ?_⟩
      cases hp : partOk cl x.1 with
      | false =>
        rw [hbad x M1 hp] at h1; exact h1.elim
      | true =>
        have : ∃ i, x.1 = .int i := by
          obtain ⟨d, o⟩ := x
          cases cl <;> first | exact absurd rfl hne | skip
          all_goals (cases d <;> first | exact ⟨_, rfl⟩ | cases hp)
        obtain ⟨i, hi⟩ := this
        rw [hi] at r1
        cases r1
        have := k x M1 J1 H1 g1 hd1 sl1 hp h1
        rw [hi] at this
        exact ⟨i, rfl, this⟩
  obtain ⟨tl, pl, kl⟩ := part hl
  obtain ⟨th, ph, kh⟩ := part hh
  refine PE.imp (pe_slice slAll ha pl ph) fun σ H Q h => ?_
  obtain ⟨J, M, e, hd, sl, h⟩ := h
  rw [show den Y (.slc ca cl ch) e = _ from rfl] at h
  refine rd_seqB hd sl h fun x M1 J1 H1 v g1 hd1 sl1 r1 h1 => ?_
  refine kl hd1 sl1 h1 (fun y M2 hy => by simp only [hy, Bool.false_eq_true, if_false]; rfl) fun y M2 J2 H2 g2 hd2 sl2 p2 h2 => ?_
  · simp only [p2, if_true] at h2
    refine kh hd2 sl2 h2 (fun z M3 hz => by simp only [hz, Bool.false_eq_true, if_false]; rfl) fun z M3 J3 H3 g3 hd3 sl3 p3 h3 => ?_
    simp only [p3, if_true] at h3
    obtain ⟨a', e', q⟩ := orBad_some h3 hd3
    obtain ⟨d, ed, rfl⟩ := Option.map_eq_some_iff.mp e'
    exact ⟨J3, M3, x.1, y.1, z.1, d, hd3, (r1.go g2).go g3, rfl, rfl, ed, ans_of (M' := M) ((g1.trans g2).trans g3) q⟩
end
end MP
end

section
set_option linter.all false
set_option Elab.async false
set_option maxRecDepth 100000
set_option maxHeartbeats 4000000
namespace MP
open PySem PySem.Spec PyProof.Rows L2
section
variable {S : Cs} {Y : Ctx} {ER : ExR} {k : Nat} {W : WX} {X : Cx}
/-- the called def runs -/
theorem run_f {pins : List (Addr × Obj)} {σ : L2.St} {H : Hp} {s : Shared} {Q : VK} {args : Args} {us : List Value} {vs : List V} {f : Addr} {fd : FuncData} {ps : List Str} {np : Nat} {F : List D → MM (D × Bool)} (ok : XOk S Y ER k W X)
    (FO : FOk X.prog X.w X.K X.mg X.base k f fd ps (spOf X.K X.w ER np F)) (hb : BindsTo s fd args (ps.zip us)) (I : Inv X pins σ H s) (r : Vals vs us) {J : Jt} {M : Mem} {ds : List D} (hd : Hold X.K X.w J M H) (rl : RepL X.K X.w J vs ds) (hn : ds.length = np)
    {H0 : Hp} {J0 : Jt} (g0 : Go J0 H0 J H) (h : ResG X ER W σ J H (F ds M) fun x _ J' H' => ∀ v, RepO X.K X.w J' H0 H' v x.1 x.2 → Q v H') : wpAny (model X.prog X.w) X.A (call (.ref f) args.pos args.kw) (EP X pins σ Q) X.xe s := by
  have hsp : spOf X.K X.w ER np F vs H Q (fun cls d H' => W cls d σ H') := by
    refine ⟨J, M, ds, hd, rl, hn, ?_⟩
    cases q : F ds M with
    | ok x M' =>
      rw [q] at h
      obtain ⟨d, o⟩ := x
      exact fun v H' J' g hd' r => h J' H' g hd' v (r.back g0)
    | exc c p M' => rw [q] at h; exact fun cv dd H' J' g hd' er => h cv dd J' H' g hd' er
    | bad => rw [q] at h; exact h
  obtain ⟨pos, kw⟩ := args
  refine wpAny_call (codeAny_mono (FO.run X.A X.stack s H ⟨pos, kw⟩ us vs Q _ ok.room ok.guards I.env0 hb r hsp) fun r s' hq => ?_)
  cases r with
  | error e => exact ok.tk e s' (XE.of_call I (fun cls d H' h => h) hq)
  | ok fl =>
    cases fl with
    | ret u => exact I.after hq
    | next => exact False.elim hq
    | brk => exact False.elim hq
    | cont => exact False.elim hq
theorem RepL.map {K : PySem.W.Frag} {w : World} {J : Jt} : ∀ {ds : List D} {vs : List V}, RepL K w J vs ds → vs.length = ds.length := RepL.len
theorem e_call {f : Str} {ps : Nat × List Str} {es : List Expr} {cs : List C} {p pos : Pos} (ok : XOk S Y ER k W X) (hf : S.sig.lookup f = some ps) (hg : isGl S f = true) (he : PA X es (rdL Y ER W X cs))
    (ns : NoStar es) (hl : es.length = ps.2.length) (hcs : cs.length = es.length) :
    PE X (.Call (.Name f p) es [] pos) (rdE Y ER W X (.call ps.1 cs)) := by
  obtain ⟨hdb, fa, fd, hm, hk, hb, _, FO⟩ := ok.calls f ps hf
  refine ⟨fun pins s σ H Q I h => ?_⟩
  obtain ⟨J, M, e, hd, sl, h⟩ := h
  rw [show den Y (.call ps.1 cs) e = _ from rfl] at h
  refine wpAny_Call_Name_kw (ld_glob I (gl_of ok hg) hm ?_ hdb)
  cases es with
  | nil =>
    have hc : cs = [] := List.length_eq_zero_iff.mp hcs
    subst hc
    have h' : ResG X ER W σ J H (Y.F ps.1 [] M) (fun x _ J' H' => ∀ v, RepO X.K X.w J' H H' v x.1 x.2 → Q v H') := h
    exact PySem.W.callWith_K0 I.kIn hk (run_f (args := ⟨[], []⟩) (us := []) ok FO (hb s [] (by simpa using hl)) I .nil hd .nil (by simpa using hl) (.refl J H) h')
  | cons a r =>
    refine PySem.W.callWith_K (h₀ := X.base) I.ok.mod.kin hk (thn (he.run pos pins s σ H (fun vs H1 => ∃ J1 M1 ds, Go J H J1 H1 ∧ Hold X.K X.w J1 M1 H1 ∧ RepL X.K X.w J1 vs ds ∧ ds.length = cs.length ∧ ResG X ER W σ J1 H1 (Y.F ps.1 ds M1) (fun x _ J' H' => ∀ v, RepO X.K X.w J' H H' v x.1 x.2 → Q v H')) I
      (rdL_seq hd sl h fun ds M1 J1 H1 vs g1 hd1 sl1 r1 hn h1 => ⟨J1, M1, ds, g1, hd1, r1, hn, h1⟩)) fun us s1 ⟨vs, H1, I1, r1, J1, M1, ds, g1, hd1, rl, hn, h1⟩ => ⟨I1.kIn, ?_⟩) (ns.head _) (ns.tail.back _ _)
    exact run_f (args := ⟨us, []⟩) (us := us) ok FO (hb s1 us (by rw [← r1.length, rl.len, hn, hcs]; exact hl)) I1 r1 hd1 rl (by rw [hn, hcs]; exact hl) g1 h1
theorem PK.imp {e : List Keyword} {t t' : TA} (h : PK X e t) (f : ∀ σ H Q, t' σ H Q → t σ H Q) : PK X e t' := ⟨fun pos pins s σ H Q I q => h.run pos pins s σ H Q I (f σ H Q q)⟩
theorem k_nil : PK X [] (rdL Y ER W X []) := PK.imp pk_nil fun σ H Q h => by
  obtain ⟨J, M, e, hd, sl, h⟩ := h
  exact h J H (.refl _ _) hd [] .nil
theorem k_cons {nm : Option Str} {kp : Pos} {a : Expr} {es : List Keyword} {c : C} {cs : List C} (ha : PE X a (rdE Y ER W X c)) (he : PK X es (rdL Y ER W X cs)) : PK X (⟨nm, a, kp⟩ :: es) (rdL Y ER W X (c :: cs)) := by
  refine PK.imp (pk_cons ha he) fun σ H Q h => ?_
  obtain ⟨J, M, e, hd, sl, h⟩ := h
  rw [show denL Y (c :: cs) e = _ from rfl] at h
  refine rd_seq hd sl h fun x M1 J1 H1 v g1 hd1 sl1 r1 h1 => ?_
  refine ⟨J1, M1, e, hd1, sl1, ?_⟩
  unfold MM.bind at h1
  cases q : denL Y cs e M1 with
  | ok ds M2 =>
    rw [q] at h1
    intro J2 H2 g2 hd2 vs r
    exact h1 J2 H2 g2 hd2 (v :: vs) (.cons (r1.ext g2.ext) r)
  | exc c p M2 => rw [q] at h1; exact h1
  | bad => rw [q] at h1; exact h1
theorem denL_app {Y : Ctx} : ∀ (a b : List C) (e : MP.Env), denL Y (a ++ b) e = MM.bind (denL Y a e) fun x => MM.bind (denL Y b e) fun y => MM.pure (x ++ y)
  | [], b, e => by
    funext M
    show denL Y b e M = MM.bind (denL Y b e) (fun y => MM.pure ([] ++ y)) M
    unfold MM.bind MM.pure
    cases denL Y b e M <;> rfl
  | c :: a, b, e => by
    funext M
    show MM.bind (den Y c e) (fun x => MM.bind (denL Y (a ++ b) e) fun xs => MM.pure (x.1 :: xs)) M = MM.bind (MM.bind (den Y c e) fun x => MM.bind (denL Y a e) fun xs => MM.pure (x.1 :: xs)) (fun x => MM.bind (denL Y b e) fun y => MM.pure (x ++ y)) M
    rw [denL_app a b e]
    unfold MM.bind MM.pure
    cases den Y c e M with
    | ok x M1 =>
      dsimp only
      cases denL Y a e M1 with
      | ok xs M2 =>
        dsimp only
        cases denL Y b e M2 <;> rfl
      | exc _ _ _ => rfl
      | bad => rfl
    | exc _ _ _ => rfl
    | bad => rfl
theorem RepL.getD {K : PySem.W.Frag} {w : World} {J : Jt} {ds ds' : List D} {vs : List V} (r : RepL K w J vs ds) : ∀ {pm : List Nat}, mapO (fun i => ds[i]?) pm = some ds' → RepL K w J (pm.map fun i => vs.getD i .non) ds' := by
  intro pm
  induction pm generalizing ds' with
  | nil => intro h; simp [mapO] at h; subst h; exact .nil
  | cons i pm ih =>
    intro h
    unfold mapO at h
    cases e : ds[i]? with
    | none => simp [e] at h
    | some d =>
      cases e2 : mapO (fun i => ds[i]?) pm with
      | none => simp [e, e2] at h
      | some r' =>
        simp [e, e2] at h; subst h
        obtain ⟨v, h1, h2⟩ := r.get e
        refine .cons ?_ (ih e2)
        dsimp only
        rw [List.getD_eq_getElem?_getD, h1]; exact h2
theorem Vals.getD {vs : List V} {us : List Value} (r : Vals vs us) {ds : List D} (hl : vs.length = ds.length) : ∀ {pm : List Nat} {ds' : List D}, mapO (fun i => ds[i]?) pm = some ds' → Vals (pm.map fun i => vs.getD i .non) (pm.map fun i => us.getD i .none) := by
  intro pm
  induction pm with
  | nil => intro ds' h; exact .nil
  | cons i pm ih =>
    intro ds' h
    unfold mapO at h
    cases e : ds[i]? with
    | none => simp [e] at h
    | some d =>
      cases e2 : mapO (fun i => ds[i]?) pm with
      | none => simp [e, e2] at h
      | some r' =>
        have hi : i < vs.length := by rw [hl]; exact (List.getElem?_eq_some_iff.mp e).1
        obtain ⟨u, h1, h2⟩ := L2.Vals.get r (List.getElem?_eq_getElem hi)
        refine .cons ?_ (ih e2)
        dsimp only
        rw [List.getD_eq_getElem?_getD, List.getD_eq_getElem?_getD, List.getElem?_eq_getElem hi, h1]; exact h2
theorem e_callp {f : Str} {ps : Nat × List Str} {es : List Expr} {kws : List Keyword} {cs : List C} {kvs : List (Str × C)} {pm : List Nat} {p pos : Pos} (ok : XOk S Y ER k W X) (hf : S.sig.lookup f = some ps) (hg : isGl S f = true) (he : PA X es (rdL Y ER W X cs)) (ns : NoStar es) (hcs : cs.length = es.length)
    (hk : PK X kws (rdL Y ER W X (kvs.map (·.2)))) (hks : ∀ env, ∃ ts, keywordEach kws env = (kvs.map (·.1)).zipWith (fun x t => (some x, t)) ts ∧ ts.length = kvs.length)
    (hmem : (f, es.length, kvs.map (·.1)) ∈ S.kws) (hl : es.length + kvs.length = ps.2.length) (hp : permOf (kvs.map (·.1)) es.length ps.2 = some pm) :
    PE X (.Call (.Name f p) es kws pos) (rdE Y ER W X (.callp ps.1 (cs ++ kvs.map (·.2)) pm)) := by
  obtain ⟨hdb, fa, fd, hm, hkp, _, hb, FO⟩ := ok.calls f ps hf
  obtain ⟨ts, hts, htl⟩ := hks X.env
  have hzip : ∀ (l : List Str) (ts : List (Sem Value)), ts.length = l.length → (backToKw pos (l.zipWith (fun x t => (some x, t)) ts)).filterMap (·.1) = l ∧ (backToKw pos (l.zipWith (fun x t => (some x, t)) ts)).all (·.1.isSome) = true ∧ (backToKw pos (l.zipWith (fun x t => (some x, t)) ts)).any (·.1.isNone) = false := by
    intro l
    induction l with
    | nil => intro ts _; simp [backToKw]
    | cons x l ih =>
      intro ts hl
      cases ts with
      | nil => simp at hl
      | cons t ts =>
        obtain ⟨h1, h2, h3⟩ := ih ts (by simpa using hl)
        refine ⟨?_, ?_, ?_⟩
        · simpa [backToKw] using h1
        · simpa [backToKw] using h2
        · simpa [backToKw] using h3
  obtain ⟨z1, z2, z3⟩ := hzip (kvs.map (·.1)) ts (by rw [htl, List.length_map])
  rw [← hts] at z1 z2 z3
  have hpm : ∀ {ds ds' : List D}, mapO (fun i => ds[i]?) pm = some ds' → ds'.length = ps.2.length := by
    intro ds ds' h
    rw [← (mapO_some h).1, ← (mapO_some hp).1]
    simp
  refine ⟨fun pins s σ H Q I h => ?_⟩
  obtain ⟨J, M, e, hd, sl, h⟩ := h
  have h' : ResG X ER W σ J H (MM.bind (denL Y cs e) (fun x => MM.bind (denL Y (kvs.map (·.2)) e) fun y => match mapO (fun i => (x ++ y)[i]?) pm with
      | some ds' => Y.F ps.1 ds'
      | none => bad) M) (fun x _ J' H' => ∀ v, RepO X.K X.w J' H H' v x.1 x.2 → Q v H') := by
    have e1 : den Y (.callp ps.1 (cs ++ kvs.map (·.2)) pm) e = MM.bind (denL Y (cs ++ kvs.map (·.2)) e) fun ds => match mapO (fun i => ds[i]?) pm with
      | some ds' => Y.F ps.1 ds'
      | none => bad := rfl
    rw [e1, denL_app] at h
    have e2 : ∀ M, MM.bind (MM.bind (denL Y cs e) fun x => MM.bind (denL Y (kvs.map (·.2)) e) fun y => MM.pure (x ++ y)) (fun ds => match mapO (fun i => ds[i]?) pm with
      | some ds' => Y.F ps.1 ds'
      | none => bad) M = MM.bind (denL Y cs e) (fun x => MM.bind (denL Y (kvs.map (·.2)) e) fun y => match mapO (fun i => (x ++ y)[i]?) pm with
      | some ds' => Y.F ps.1 ds'
      | none => bad) M := by
      intro M
      unfold MM.bind MM.pure
      cases denL Y cs e M with
      | ok x M1 =>
        dsimp only
        cases denL Y (kvs.map (·.2)) e M1 <;> rfl
      | exc _ _ _ => rfl
      | bad => rfl
    rw [e2] at h
    exact h
  refine wpAny_Call_Name_kw (ld_glob I (gl_of ok hg) hm ?_ hdb)
  -- the keywords' values, then the call
  have last : ∀ (us : List Value) (vs : List V) (ds : List D) (s1 : Shared) (H1 : Hp) (J1 : Jt) (M1 : Mem), L2.Inv X pins σ H1 s1 → Vals vs us → Go J H J1 H1 → Hold X.K X.w J1 M1 H1 → Slots X.K X.w J1 H1 σ e → RepL X.K X.w J1 vs ds → ds.length = cs.length →
      ResG X ER W σ J1 H1 (MM.bind (denL Y (kvs.map (·.2)) e) (fun y => match mapO (fun i => (ds ++ y)[i]?) pm with
        | some ds' => Y.F ps.1 ds'
        | none => bad) M1) (fun x _ J' H' => ∀ v, RepO X.K X.w J' H H' v x.1 x.2 → Q v H') →
      wpAny (model X.prog X.w) X.A (evalAll ((backToKw pos (keywordEach kws X.env)).map (·.2))) (fun ks s₂ => X.K.In s₂.heap ∧ wpAny (model X.prog X.w) X.A (call (.ref fa) us (((backToKw pos (keywordEach kws X.env)).filterMap (·.1)).zip ks)) (EP X pins σ Q) X.xe s₂) X.xe s1 := by
    intro us vs ds s1 H1 J1 M1 I1 rv g1 hd1 sl1 rl hn h1
    refine thn (hk.run pos pins s1 σ H1 (fun zs H2 => ∃ J2 M2 ds2, Go J1 H1 J2 H2 ∧ Hold X.K X.w J2 M2 H2 ∧ RepL X.K X.w J2 zs ds2 ∧ ds2.length = (kvs.map (·.2)).length ∧ ResG X ER W σ J2 H2 ((match mapO (fun i => (ds ++ ds2)[i]?) pm with
        | some ds' => Y.F ps.1 ds'
        | none => bad : MM (D × Bool)) M2) (fun x _ J' H' => ∀ v, RepO X.K X.w J' H H' v x.1 x.2 → Q v H')) I1
      (rdL_seq hd1 sl1 h1 fun ds2 M2 J2 H2 zs g2 hd2 sl2 r2 hn2 h2 => ⟨J2, M2, ds2, g2, hd2, r2, hn2, h2⟩)) fun ws s2 ⟨zs, H2, I2, rz, J2, M2, ds2, g2, hd2, rl2, hn2, h2⟩ => ⟨I2.kIn, ?_⟩
    rw [z1]
    cases q : mapO (fun i => (ds ++ ds2)[i]?) pm with
    | none => rw [q] at h2; exact h2.elim
    | some ds' =>
      rw [q] at h2
      have rl' := (rl.ext g2.ext).app rl2
      have hul : us.length = es.length := by rw [← rv.length, rl.len, hn, hcs]
      have hwl : ws.length = (kvs.map (·.1)).length := by rw [← rz.length, rl2.len, hn2]; simp
      exact run_f (args := ⟨us, (kvs.map (·.1)).zip ws⟩) ok FO (hb _ _ pm hmem hp s2 us ws hul hwl (by rw [List.length_map]; exact hl)) I2 (Vals.getD (rv.append rz) rl'.len q) hd2 (rl'.getD q) (hpm q) (g1.trans g2) h2
  cases es with
  | nil =>
    have hc : cs = [] := List.length_eq_zero_iff.mp hcs
    subst hc
    refine PySem.W.callWith_KW0 (h₀ := X.base) I.ok.mod.kin hkp z2 ?_ (by rw [show backTo pos (starEach [] X.env) = [] from rfl]; simpa using z3)
    exact last [] [] [] s H J M I .nil (.refl _ _) hd sl .nil rfl h'
  | cons a r =>
    refine PySem.W.callWith_KW (h₀ := X.base) I.ok.mod.kin hkp z2 ?_ (by rw [ns.back, z3]; rfl) (ns.head _)
    refine thn (he.run pos pins s σ H (fun vs H1 => ∃ J1 M1 ds, Go J H J1 H1 ∧ Hold X.K X.w J1 M1 H1 ∧ Slots X.K X.w J1 H1 σ e ∧ RepL X.K X.w J1 vs ds ∧ ds.length = cs.length ∧ ResG X ER W σ J1 H1 (MM.bind (denL Y (kvs.map (·.2)) e) (fun y => match mapO (fun i => (ds ++ y)[i]?) pm with
        | some ds' => Y.F ps.1 ds'
        | none => bad) M1) (fun x _ J' H' => ∀ v, RepO X.K X.w J' H H' v x.1 x.2 → Q v H')) I
      (rdL_seq hd sl h' fun ds M1 J1 H1 vs g1 hd1 sl1 r1 hn h1 => ⟨J1, M1, ds, g1, hd1, sl1, r1, hn, h1⟩)) fun us s1 ⟨vs, H1, I1, r1, J1, M1, ds, g1, hd1, sl1, rl, hn, h1⟩ => ?_
    exact last us vs ds s1 H1 J1 M1 I1 r1 g1 hd1 sl1 rl hn h1
end
end MP
end

section
set_option linter.all false
set_option Elab.async false
set_option maxRecDepth 100000
set_option maxHeartbeats 4000000
namespace MP
open PySem PySem.Spec PyProof.Rows L2
section
variable {S : Cs} {Y : Ctx} {ER : ExR} {k : Nat} {W : WX} {X : Cx}
/-- a built-in's call -/
theorem e_bi1 {f : Bi} {x : Str} {a : Expr} {ca : C} {v : Value} {p pos : Pos} (ok : XOk S Y ER k W X) (hv : bootBuiltins x = some v) (hk : (∃ id, v = .builtin id) ∨ ∃ T, v = .type T) (hc : CallR X v (rBi X f)) (hg : isGl S x = true) (hm : X.mg x = none) (hn : x ≠ "__name__") (hdb : (x == ("__debug__" : Str)) = false)
    (ha : PE X a (rdB Y ER W X ca)) (na : ∀ rest env, starEach (a :: rest) env = (false, eval a env) :: starEach rest env) : PE X (.Call (.Name x p) [a] [] pos) (rdE Y ER W X (.bi f [ca])) := by
  have rd : ∀ σ H Q, rdE Y ER W X (.bi f [ca]) σ H Q → tCB (rBi X f) (tCons (rdB Y ER W X ca) tNil) σ H Q := by
    intro σ H Q h
    obtain ⟨J, M, e, hd, sl, h⟩ := h
    have h' : ResG X ER W σ J H (MM.bind (den Y ca e) (fun x => orBad ((biO Y.rp f [x.1]).map fun d => (d, freshBi f))) M) (fun x _ J' H' => ∀ v, RepO X.K X.w J' H H' v x.1 x.2 → Q v H') := by
      have e1 : den Y (.bi f [ca]) e = MM.bind (MM.bind (den Y ca e) fun x => MM.bind (MM.pure []) fun xs => MM.pure (x.1 :: xs)) fun ds => orBad ((biO Y.rp f ds).map fun d => (d, freshBi f)) := rfl
      rw [e1] at h
      have e2 : ∀ M, MM.bind (MM.bind (den Y ca e) fun x => MM.bind (MM.pure []) fun xs => MM.pure (x.1 :: xs)) (fun ds => orBad ((biO Y.rp f ds).map fun d => (d, freshBi f))) M = MM.bind (den Y ca e) (fun x => orBad ((biO Y.rp f [x.1]).map fun d => (d, freshBi f))) M := by
        intro M
        unfold MM.bind MM.pure
        cases den Y ca e M <;> rfl
      rw [e2] at h; exact h
    refine rd_seqB hd sl h' fun x M1 J1 H1 v g1 hd1 sl1 r1 h1 => ?_
    obtain ⟨a', e', q⟩ := orBad_some h1 hd1
    obtain ⟨d, ed, rfl⟩ := Option.map_eq_some_iff.mp e'
    rw [ok.rp] at ed
    exact ⟨J1, M1, [x.1], d, hd1, .cons r1 .nil, ed, ans_of (M' := M) g1 q⟩
  rcases hk with ⟨id, rfl⟩ | ⟨T, rfl⟩
  · exact PE.imp (pe_callB hc (gl_of ok hg) hm hv (pa_cons ha pa_nil (na _ _)) hn hdb (na _ _) rfl) rd
  · exact PE.imp (pe_callTy hc (gl_of ok hg) hm hv (pa_cons ha pa_nil (na _ _)) hn hdb (na _ _) rfl) rd
theorem e_bi2 {f : Bi} {x : Str} {a b : Expr} {ca cb : C} {id : String} {p pos : Pos} (ok : XOk S Y ER k W X) (hv : bootBuiltins x = some (.builtin id)) (hc : CallR X (.builtin id) (rBi X f)) (hg : isGl S x = true) (hm : X.mg x = none) (hn : x ≠ "__name__") (hdb : (x == ("__debug__" : Str)) = false)
    (ha : PE X a (rdE Y ER W X ca)) (hb : PE X b (rdE Y ER W X cb)) (na : ∀ rest env, starEach (a :: rest) env = (false, eval a env) :: starEach rest env) (nb : ∀ rest env, starEach (b :: rest) env = (false, eval b env) :: starEach rest env) :
    PE X (.Call (.Name x p) [a, b] [] pos) (rdE Y ER W X (.bi f [ca, cb])) := by
  have ns : NoStar [a, b] := NoStar.cons na (NoStar.cons nb NoStar.nil)
  refine PE.imp (pe_callB hc (gl_of ok hg) hm hv (a_cons ha (a_cons hb a_nil (nb _ _)) (na _ _)) hn hdb (na _ _) (ns.tail.back _ _)) fun σ H Q h => ?_
  obtain ⟨J, M, e, hd, sl, h⟩ := h
  rw [show den Y (.bi f [ca, cb]) e = _ from rfl] at h
  refine rdL_seq hd sl h fun ds M1 J1 H1 vs g1 hd1 sl1 r1 _ h1 => ?_
  obtain ⟨a', e', q⟩ := orBad_some h1 hd1
  obtain ⟨d, ed, rfl⟩ := Option.map_eq_some_iff.mp e'
  rw [ok.rp] at ed
  exact ⟨J1, M1, ds, d, hd1, .of r1, ed, ans_of (M' := M) g1 q⟩
/-- list(range(..)) -/
theorem rg_eq (a b : Int) : rangeL a b = (List.range (b - a).toNat).map fun (k : Nat) => D.int (a + (k : Int)) := rfl
theorem e_rg1 {a : Expr} {ca : C} {p p2 pos pos2 : Pos} (ok : XOk S Y ER k W X) (hg : isGl S "list" = true) (hg2 : isGl S "range" = true)
    (ha : PE X a (rdE Y ER W X ca)) (na : ∀ rest env, starEach (a :: rest) env = (false, eval a env) :: starEach rest env) : PE X (.Call (.Name "list" p) [.Call (.Name "range" p2) [a] [] pos2] [] pos) (rdE Y ER W X (.bi .listrange [ca])) := by
  refine PE.imp (pe_listRg ok.calm (gl_of ok hg) (ok.blt _ (by simp)) (prg_1 (gl_of ok hg2) (ok.blt _ (by simp)) ha (na _ _)) rfl) fun σ H Q h => ?_
  obtain ⟨J, M, e, hd, sl, h⟩ := h
  have h' : ResG X ER W σ J H (MM.bind (den Y ca e) (fun x => orBad ((biO Y.rp .listrange [x.1]).map fun d => (d, true))) M) (fun x _ J' H' => ∀ v, RepO X.K X.w J' H H' v x.1 x.2 → Q v H') := by
    have e1 : den Y (.bi .listrange [ca]) e = MM.bind (MM.bind (den Y ca e) fun x => MM.bind (MM.pure []) fun xs => MM.pure (x.1 :: xs)) fun ds => orBad ((biO Y.rp .listrange ds).map fun d => (d, true)) := rfl
    rw [e1] at h
    have e2 : ∀ M, MM.bind (MM.bind (den Y ca e) fun x => MM.bind (MM.pure []) fun xs => MM.pure (x.1 :: xs)) (fun ds => orBad ((biO Y.rp .listrange ds).map fun d => (d, true))) M = MM.bind (den Y ca e) (fun x => orBad ((biO Y.rp .listrange [x.1]).map fun d => (d, true))) M := by
      intro M
      unfold MM.bind MM.pure
      cases den Y ca e M <;> rfl
    rw [e2] at h; exact h
  refine rd_seq hd sl h' fun x M1 J1 H1 v g1 hd1 sl1 r1 h1 => ?_
  obtain ⟨a', e', q⟩ := orBad_some h1 hd1
  obtain ⟨d, ed, rfl⟩ := Option.map_eq_some_iff.mp e'
  obtain ⟨d0, o⟩ := x
  simp only [biO] at ed
  obtain ⟨l, el, ed⟩ := Option.bind_eq_some_iff.mp ed
  cases d0 <;> simp only [itO, reduceCtorEq] at el
  split at el
  · rename_i n hs
    cases el
    split at ed
    · rename_i hl
      cases ed
      cases r1
      simp only [smallI, Bool.and_eq_true, decide_eq_true_eq] at hs
      simp only [rangeL, List.length_map, List.length_range] at hl
      refine ⟨n, rfl, ⟨by omega, by omega, by omega, by omega, by omega⟩, fun p hp => ?_⟩
      have := Ans.lst (M := M1) (xs := rgV 0 n) (ans_of (M' := M) g1 q) hd1 (by
        rw [rg_eq]; unfold rgV
        rw [show (List.range (n - 0).toNat).map (fun (k : Nat) => D.int (0 + (k : Int))) = ((List.range (n - 0).toNat).map (fun (k : Nat) => (0 + (k : Int)))).map D.int by rw [List.map_map]; rfl,
          show (List.range (n - 0).toNat).map (fun (k : Nat) => V.int (0 + (k : Int))) = ((List.range (n - 0).toNat).map (fun (k : Nat) => (0 + (k : Int)))).map V.int by rw [List.map_map]; rfl]
        exact RepL.ofInts _)
      exact this p hp
    · cases ed
  · cases el
theorem e_rg2 {a b : Expr} {ca cb : C} {p p2 pos pos2 : Pos} (ok : XOk S Y ER k W X) (hg : isGl S "list" = true) (hg2 : isGl S "range" = true)
    (ha : PE X a (rdE Y ER W X ca)) (hb : PE X b (rdE Y ER W X cb)) (na : ∀ rest env, starEach (a :: rest) env = (false, eval a env) :: starEach rest env) (nb : ∀ rest env, starEach (b :: rest) env = (false, eval b env) :: starEach rest env) :
    PE X (.Call (.Name "list" p) [.Call (.Name "range" p2) [a, b] [] pos2] [] pos) (rdE Y ER W X (.bi .listrange2 [ca, cb])) := by
  have ns : NoStar [a, b] := NoStar.cons na (NoStar.cons nb NoStar.nil)
  refine PE.imp (pe_listRg ok.calm (gl_of ok hg) (ok.blt _ (by simp)) (prg_2 (gl_of ok hg2) (ok.blt _ (by simp)) ha hb (na _ _) (nb _ _) (ns.tail.back _ _)) rfl) fun σ H Q h => ?_
  obtain ⟨J, M, e, hd, sl, h⟩ := h
  have h' : ResG X ER W σ J H (MM.bind (den Y ca e) (fun x => MM.bind (den Y cb e) fun y => orBad ((biO Y.rp .listrange2 [x.1, y.1]).map fun d => (d, true))) M) (fun x _ J' H' => ∀ v, RepO X.K X.w J' H H' v x.1 x.2 → Q v H') := by
    have e1 : den Y (.bi .listrange2 [ca, cb]) e = MM.bind (MM.bind (den Y ca e) fun x => MM.bind (MM.bind (den Y cb e) fun y => MM.bind (MM.pure []) fun xs => MM.pure (y.1 :: xs)) fun xs => MM.pure (x.1 :: xs)) fun ds => orBad ((biO Y.rp .listrange2 ds).map fun d => (d, true)) := rfl
    rw [e1] at h
    have e2 : ∀ M, MM.bind (MM.bind (den Y ca e) fun x => MM.bind (MM.bind (den Y cb e) fun y => MM.bind (MM.pure []) fun xs => MM.pure (y.1 :: xs)) fun xs => MM.pure (x.1 :: xs)) (fun ds => orBad ((biO Y.rp .listrange2 ds).map fun d => (d, true))) M = MM.bind (den Y ca e) (fun x => MM.bind (den Y cb e) fun y => orBad ((biO Y.rp .listrange2 [x.1, y.1]).map fun d => (d, true))) M := by
      intro M
      unfold MM.bind MM.pure
      cases den Y ca e M with
      | ok x M1 => dsimp only; cases den Y cb e M1 <;> rfl
      | exc _ _ _ => rfl
      | bad => rfl
    rw [e2] at h; exact h
  refine rd_seq hd sl h' fun x M1 J1 H1 v g1 hd1 sl1 r1 h1 => ?_
  refine rd_seq hd1 sl1 h1 fun y M2 J2 H2 u g2 hd2 sl2 r2 h2 => ?_
  obtain ⟨a', e', q⟩ := orBad_some h2 hd2
  obtain ⟨d, ed, rfl⟩ := Option.map_eq_some_iff.mp e'
  obtain ⟨d0, o⟩ := x
  obtain ⟨d1, o1⟩ := y
  simp only [biO] at ed
  obtain ⟨l, el, ed⟩ := Option.bind_eq_some_iff.mp ed
  cases d0 <;> cases d1 <;> simp only [itO, reduceCtorEq] at el
  split at el
  · rename_i i j hs
    cases el
    split at ed
    · rename_i hl
      cases ed
      cases r1
      cases r2
      simp only [smallI, Bool.and_eq_true, decide_eq_true_eq] at hs
      simp only [rangeL, List.length_map, List.length_range] at hl
      refine ⟨i, j, rfl, rfl, ⟨by omega, by omega, by omega, by omega, by omega⟩, fun p hp => ?_⟩
      have := Ans.lst (M := M2) (xs := rgV i j) (ans_of (M' := M) (g1.trans g2) q) hd2 (by
        rw [rg_eq]; unfold rgV
        rw [show (List.range (j - i).toNat).map (fun (k : Nat) => D.int (i + (k : Int))) = ((List.range (j - i).toNat).map (fun (k : Nat) => (i + (k : Int)))).map D.int by rw [List.map_map]; rfl,
          show (List.range (j - i).toNat).map (fun (k : Nat) => V.int (i + (k : Int))) = ((List.range (j - i).toNat).map (fun (k : Nat) => (i + (k : Int)))).map V.int by rw [List.map_map]; rfl]
        exact RepL.ofInts _)
      exact this p hp
    · cases ed
  · cases el
end
end MP
end

section
set_option linter.all false
set_option Elab.async false
set_option maxRecDepth 100000
set_option maxHeartbeats 4000000
namespace MP
open PySem PySem.Spec PyProof.Rows L2
/-! classes: what the written part says of them -/
structure ClsF (K : PySem.W.Frag) (c : Nat) (C : Addr) (fn : List Str) : Prop where
  cls : Cls K C
  ne : PySem.W.findIn K (.ref C) "__ne__" = some (some (.builtin "object.__ne__"))
  na : ∀ f ∈ fn ++ [("seen" : Str)], NoAttr K C f
  ha : PySem.W.findIn K (.ref C) "__class__" = some (some (.builtin "object.__class__"))
  hn : PySem.W.specialIn K (.builtin "object.__class__") "__get__" = some (some (.builtin "getset_descriptor.__get__"))
  htk : PySem.W.takesIn K (.builtin "object.__class__") = some true
  hm : PySem.W.mroIn K C (.type "object") = some true
  k1 : ∀ t ∈ (["NoneType", "bool", "int", "str", "tuple", "list", "dict"] : List String), PySem.W.kitOne K (.type t) (.ref C) = some false
  k2 : ∀ t ∈ (["bool", "int", "str", "tuple"] : List String), PySem.W.kitOne K (.ref C) (.type t) = some false
  k3 : ∀ c' C', c' < clsTab.length → clsAt K c' = some C' → PySem.W.kitOne K (.ref C) (.ref C') = some (c == c')
theorem clsB_ok {K : PySem.W.Frag} {c : Nat} (h : clsB K c = true) {nm : Str} {fn : List Str} {b : Bool} {C : Addr} (hc : clsTab[c]? = some (nm, fn, b)) (hn : clsAt K c = some C) : ClsF K c C fn := by
  unfold clsB at h
  rw [hc, hn] at h
  dsimp only at h
  simp only [Bool.and_eq_true] at h
  obtain ⟨h1, h0, h2, h3, h4, h5, ⟨⟨⟨h6, h7⟩, h8⟩, h9⟩, ⟨h10, h11⟩, h12⟩ := h
  refine ⟨⟨h1, h2, h3, eq_of_beq h4⟩, eq_of_beq h0, fun f hf => eq_of_beq (List.all_eq_true.mp h5 f hf), eq_of_beq h6, eq_of_beq h7, eq_of_beq h8, eq_of_beq h9, fun t ht => eq_of_beq (List.all_eq_true.mp h10 t ht), fun t ht => eq_of_beq (List.all_eq_true.mp h11 t ht), fun c' C' hl e => ?_⟩
  have := List.all_eq_true.mp h12 c' (List.mem_range.mpr hl)
  rw [e] at this
  exact eq_of_beq this
theorem clsAt_of {K : PySem.W.Frag} {c : Nat} {C : Addr} {nm : Str} {r : List Str × Bool} (hc : clsTab[c]? = some (nm, r)) (hn : PySem.W.nsIn K mainGlobals nm = some (some (.ref C))) : clsAt K c = some C := by
  unfold clsAt
  rw [hc]
  simp only [Option.bind_some, hn]
theorem lookup_zip2 {f : Str} {s : V} : ∀ {fn : List Str} {vs : List V} {i : Nat}, fn.findIdx? (· == f) = some i → vs.length = fn.length → ((fn ++ [("seen" : Str)]).zip (vs ++ [s])).lookup f = vs[i]?
  | [], vs, i, h, _ => by simp at h
  | g :: fn, [], i, _, hl => by simp at hl
  | g :: fn, v :: vs, i, h, hl => by
    rw [List.findIdx?_cons] at h
    by_cases hg : (g == f) = true
    · rw [if_pos hg] at h
      cases h
      have : g = f := eq_of_beq hg
      subst this
      simp [List.lookup]
    · rw [if_neg hg] at h
      obtain ⟨j, hj, rfl⟩ := Option.map_eq_some_iff.mp h
      have hfg : (f == g) = false := by
        have : f ≠ g := by rintro rfl; simp at hg
        simpa using this
      have := lookup_zip2 (s := s) hj (vs := vs) (by simpa using hl)
      simp only [List.cons_append, List.zip_cons_cons, List.lookup, hfg]
      rw [this]; simp
theorem lookup_none {f : Str} : ∀ {l : List (Str × V)}, f ∉ l.map (·.1) → l.lookup f = none
  | [], _ => rfl
  | (g, v) :: l, h => by
    simp only [List.map_cons, List.mem_cons, not_or] at h
    have : (f == g) = false := by simpa using h.1
    simp only [List.lookup, this]
    exact lookup_none h.2
/-- an instance, as it lies -/
structure InsR (K : PySem.W.Frag) (w : World) (J : Jt) (a : Addr) (c : Nat) (ds : List D) (C dx s : Addr) (nm : Str) (fn : List Str) (vs : List V) : Prop where
  hc : clsTab[c]? = some (nm, fn, true)
  at_ : clsAt K c = some C
  h : J.I a = some (.ins C dx ((fn ++ [("seen" : Str)]).zip (vs ++ [.ref s])))
  hl : vs.length = fn.length
  hs : J.C s = some (.ins c ds)
  r : RepL K w J vs ds
theorem Rep.insR {K : PySem.W.Frag} {w : World} {J : Jt} {v : V} {c : Nat} {ds : List D} (r : Rep K w J v (.ins c ds)) : ∃ a C dx s nm fn vs, v = .ref a ∧ InsR K w J a c ds C dx s nm fn vs := by
  cases r with
  | ins hc hn h hl hs r => exact ⟨_, _, _, _, _, _, _, rfl, hc, clsAt_of hc hn, h, hl, hs, r⟩
theorem RepB.insR {K : PySem.W.Frag} {w : World} {J : Jt} {H : Hp} {v : V} {c : Nat} {ds : List D} (r : RepB K w J H v (.ins c ds)) : Rep K w J v (.ins c ds) := by
  rcases r with r | ⟨_, _, o, _, _, _, r⟩
  · exact r
  · cases r
theorem InsR.nolook {K : PySem.W.Frag} {w : World} {J : Jt} {a C dx s : Addr} {c : Nat} {ds : List D} {nm m : Str} {fn : List Str} {vs : List V} (i : InsR K w J a c ds C dx s nm fn vs) (h : m ∉ fn ++ [("seen" : Str)]) : ((fn ++ [("seen" : Str)]).zip (vs ++ [V.ref s])).lookup m = none := by
  refine lookup_none fun hm => h ?_
  rw [List.map_fst_zip (by simp [i.hl])] at hm
  exact hm
/-- no method has a field's name -/
theorem mem_nofld : ∀ (c : Nat) (p : Str × List Str × Bool), clsTab[c]? = some p → ∀ l, memTab[c]? = some l → ∀ m ∈ l, m ∉ p.2.1 ++ [("seen" : Str)] := by
  intro c p hp l hl m hm
  have : ∀ c ∈ List.range 2, (match clsTab[c]?, memTab[c]? with
    | some p, some l => l.all fun m => !(p.2.1 ++ [("seen" : Str)]).contains m
    | _, _ => true) = true := by decide +kernel
  have hc : c < 2 := by
    have := (List.getElem?_eq_some_iff.mp hp).1
    exact this
  have h := this c (List.mem_range.mpr hc)
  rw [hp, hl] at h
  have := List.all_eq_true.mp h m hm
  simpa using this
theorem methNo_mem {c n : Nat} {m : Str} (h : methNo c m = some n) : ∃ l, memTab[c]? = some l ∧ m ∈ l := by
  unfold methNo at h
  obtain ⟨l, hl, h⟩ := Option.bind_eq_some_iff.mp h
  obtain ⟨i, hi, _⟩ := Option.map_eq_some_iff.mp h
  refine ⟨l, hl, ?_⟩
  obtain ⟨hlt, hge, _⟩ := List.findIdx?_eq_some_iff_getElem.mp hi
  rw [← eq_of_beq hge]; exact List.getElem_mem hlt
section
variable {S : Cs} {Y : Ctx} {ER : ExR} {k : Nat} {W : WX} {X : Cx}
theorem tyX_ins {K : PySem.W.Frag} {w : World} {J : Jt} {M : Mem} {H : Hp} (hd : Hold K w J M H) (hcl : ∀ c, clsB K c = true) {v : V} {c : Nat} {ds : List D} (r : Rep K w J v (.ins c ds)) : ∃ C, clsAt K c = some C ∧ TyX K H v (.ref C) := by
  obtain ⟨a, C, dx, s, nm, fn, vs, rfl, i⟩ := r.insR
  obtain q := clsB_ok (hcl c) i.hc i.at_
  exact ⟨C, i.at_, .base (.ins (hd.I _ _ i.h) q.cls q.ha q.hn q.htk q.hm)⟩
end
end MP
end

section
set_option linter.all false
set_option Elab.async false
set_option maxRecDepth 100000
set_option maxHeartbeats 4000000
namespace MP
open PySem PySem.Spec PyProof.Rows L2
section
variable {S : Cs} {Y : Ctx} {ER : ExR} {k : Nat} {W : WX} {X : Cx}
def tyName : Ty → String
  | .int => "int" | .bool => "bool" | .str => "str" | .tuple => "tuple" | .gate => "Gate" | .box => "Box"
def builtTy : Ty → Bool
  | .int | .bool | .str | .tuple => true
  | _ => false
/-- the built-in type of plain values -/
def tyD : D → String
  | .non => "NoneType" | .bl _ => "bool" | .int _ => "int" | .str _ => "str" | .tup _ => "tuple" | .lst _ | .mtb _ | .scr _ => "list" | .dct _ _ => "dict"
  | .ins _ _ | .cls _ | .err _ _ | .lam _ _ | .unp _ => "Gate"
def plainTy : D → Bool
  | .ins _ _ | .cls _ | .err _ _ | .lam _ _ | .unp _ => false
  | _ => true
theorem RepB.ty {J : Jt} {M : Mem} {H : Hp} {x : V} {d : D} (r : RepB X.K X.w J H x d) (hd : Hold X.K X.w J M H) (hni : plainTy d = true) : TyX X.K H x (.type (tyD d)) := by
  cases d with
  | non => obtain rfl := r.non; exact .base .non
  | bl b => obtain rfl := r.bl; exact .base (.bl b)
  | int i => obtain rfl := r.int; exact .base (.int i)
  | str s => obtain ⟨rfl, _, _⟩ := r.str; exact .base (.str _)
  | tup l =>
    rcases r with r | ⟨_, _, o, _, _, _, r⟩
    · cases r with
      | tup j _ =>
        rcases j with ⟨o, j, _⟩ | ⟨o, its, n, h1, h2, _⟩
        · exact .fTuple (hd.I _ _ j)
        · exact .kTuple h1 h2
    · cases r
  | lst l => obtain ⟨a, xs, rfl, h1, _⟩ := r.lst hd; exact .base (.lst h1)
  | dct ks vs =>
    obtain ⟨a, kvs, rfl, h, _⟩ := r.dct hd
    rcases h with h | ⟨es, n, D, _⟩
    · exact .base (.dK h)
    · exact .kDict D.at_ rfl
  | mtb n =>
    rcases r with r | ⟨_, _, o, _, _, _, r⟩
    · cases r with
      | mtb h =>
        obtain ⟨o, e, _⟩ := hd.rho (List.mem_of_getElem? h)
        have hn : n < M.length := by rw [hd.len]; exact (List.getElem?_eq_some_iff.mp h).1
        obtain ⟨a', o', h1, h2, _, h4⟩ := hd.m n M[n] (List.getElem?_eq_getElem hn)
        rw [h] at h1; cases h1
        cases hm : M[n] with
        | lst ds =>
          rw [hm] at h4
          obtain ⟨xs, rfl, _⟩ := h4
          exact .base (.lst h2)
    · cases r
  | scr l =>
    rcases r with r | ⟨_, _, o, _, _, _, r⟩
    · cases r with
      | scr j =>
        rcases j with ⟨o, h⟩ | ⟨o, its, n, h1, h2, _⟩
        · exact .base (.frz (hd.I _ _ h))
        · exact .kList h1 h2
    · cases r
  | ins c l => cases hni
  | cls c => cases hni
  | err c l => cases hni
  | lam c l => cases hni
  | unp l => cases hni
theorem kitB_is : ∀ (t : Ty), builtTy t = true → ∀ s ∈ (["NoneType", "bool", "int", "str", "tuple", "list", "dict"] : List String), kitB s (tyName t) = some (match t with
    | .int => s == "int" || s == "bool"
    | .bool => s == "bool"
    | .str => s == "str"
    | _ => s == "tuple") := by
  intro t ht
  cases t <;> first | (simp [builtTy] at ht; done) | skip
  all_goals
    intro s hs
    simp only [List.mem_cons, List.not_mem_nil, or_false] at hs
    rcases hs with rfl | rfl | rfl | rfl | rfl | rfl | rfl <;> decide +kernel
theorem e_isi {x : Str} {t : Ty} {a : Expr} {ca : C} {p p2 pos : Pos} (ok : XOk S Y ER k W X) (hg : isGl S "isinstance" = true) (hx : x = PySem.Str.ofString (tyName t)) (hgt : isGl S x = true) (ht : builtTy t = true) (hmt : X.mg x = none)
    (ha : PE X a (rdB Y ER W X ca)) (na : ∀ rest env, starEach (a :: rest) env = (false, eval a env) :: starEach rest env) : PE X (.Call (.Name "isinstance" p) [a, .Name x p2] [] pos) (rdE Y ER W X (.isi ca t)) := by
  have hbt : bootBuiltins x = some (.type (tyName t)) ∧ x ≠ "__name__" ∧ (x == ("__debug__" : Str)) = false := by
    subst hx
    cases t <;> first | (simp [builtTy] at ht; done) | skip
    all_goals decide +kernel
  have hty : PE X (.Name x p2) (tC (.ty (tyName t))) := pe_bltn (gl_of ok hgt) hmt hbt.1 rfl hbt.2.1 hbt.2.2
  have ns : NoStar [a, .Name x p2] := NoStar.cons na (NoStar.cons (fun _ _ => rfl) NoStar.nil)
  refine PE.imp (pe_callB call_isi (gl_of ok hg) (ok.blt _ (by simp)) boot_isinstance (pa_cons ha (pa_cons hty pa_nil rfl) (na _ _)) (by decide) (by decide) (na _ _) (ns.tail.back _ _)) fun σ H Q h => ?_
  obtain ⟨J, M, e, hd, sl, h⟩ := h
  rw [show den Y (.isi ca t) e = _ from rfl] at h
  refine rd_seqB hd sl h fun y M1 J1 H1 v g1 hd1 sl1 r1 h1 => ?_
  obtain ⟨a', e', q⟩ := orBad_some h1 hd1
  obtain ⟨b, ed, rfl⟩ := Option.map_eq_some_iff.mp e'
  obtain ⟨d, o⟩ := y
  have hk := kitB_is t ht (tyD d)
  have q' := q J1 H1 (.refl _ _) hd1 _ (.bl b)
  cases hp : plainTy d with
  | true =>
    refine ⟨v, .ty (tyName t), .type (tyD d), .type (tyName t), b, rfl, .ty _, r1.ty hd1 hp, kit_ty ?_, q'⟩
    cases t <;> first | (simp [builtTy] at ht; done) | skip
    all_goals
      cases d <;> first
        | (simp [plainTy] at hp; done)
        | (rw [hk (by simp [tyD])]; simpa [isO, tyD] using ed)
  | false =>
    cases d with
    | ins c l =>
      obtain ⟨C1, hC1, T⟩ := tyX_ins hd1 ok.G.cls r1.insR
      obtain ⟨a1, C2, dx, s, nm, fn, vs, rfl, i⟩ := r1.insR.insR
      have F1 := clsB_ok (ok.G.cls c) i.hc i.at_
      have : C2 = C1 := by have := i.at_; rw [hC1] at this; cases this; rfl
      subst this
      refine ⟨_, .ty (tyName t), .ref C2, .type (tyName t), b, rfl, .ty _, T, ?_, q'⟩
      have hb : b = false := by
        cases t <;> first | (simp [builtTy] at ht; done) | (simpa [isO] using ed.symm)
      subst hb
      refine F1.k2 _ ?_
      cases t <;> first | (simp [builtTy] at ht; done) | (simp [tyName])
    | cls _ => cases t <;> simp [isO] at ed
    | err _ _ => cases t <;> simp [isO] at ed
    | lam _ _ => cases t <;> simp [isO] at ed
    | unp _ => cases t <;> simp [isO] at ed
    | _ => simp [plainTy] at hp
/-! ### min, sum of a list -/
theorem foldl_min : ∀ (l : List Int) (a : Int), l.foldl min a ∈ a :: l ∧ ∀ y ∈ a :: l, l.foldl min a ≤ y
  | [], a => ⟨by simp, by simp⟩
  | b :: l, a => by
    obtain ⟨h1, h2⟩ := foldl_min l (min a b)
    rw [List.foldl_cons]
    refine ⟨?_, fun y hy => ?_⟩
    · rcases List.mem_cons.mp h1 with h1 | h1
      · rw [h1]
        by_cases q : a ≤ b
        · rw [Int.min_eq_left q]; simp
        · rw [Int.min_eq_right (by omega)]; simp
      · simp [h1]
    · have hm := h2 (min a b) (by simp)
      rcases List.mem_cons.mp hy with rfl | hy
      · exact Int.le_trans hm (Int.min_le_left _ _)
      · rcases List.mem_cons.mp hy with rfl | hy
        · exact Int.le_trans hm (Int.min_le_right _ _)
        · exact h2 y (by simp [hy])
theorem bi_minl (hc : X.calm = true) : CallR X (.builtin "min") (rBi X .minl) := by
  intro pins s σ H xs us Q I r h
  obtain ⟨J, M, ds, d, hd, ha, e, q⟩ := h
  match ds, e with
  | [.lst l], e =>
    obtain ⟨x, rfl, r1⟩ := ha.one
    obtain ⟨a, ys, rfl, h1, h2⟩ := r1.lst hd
    simp only [biO] at e
    obtain ⟨ns, hn, e⟩ := Option.bind_eq_some_iff.mp e
    rw [mapO_ints hn] at h2
    have := h2.ints
    subst this
    cases ns with
    | nil => cases e
    | cons m ns =>
      cases e
      refine cr_min hc pins s σ H _ us Q I r ⟨a, m :: ns, rfl, SqL.of h1, by simp, fun z hz hle => ?_⟩
      obtain ⟨f1, f2⟩ := foldl_min ns m
      have : z = ns.foldl min m := Int.le_antisymm (hle _ f1) (f2 z hz)
      subst this
      exact q.sh hd (.int _)
  | [], e => simp [biO] at e
  | _ :: _ :: _, e => simp [biO] at e
  | [.non], e | [.bl _], e | [.int _], e | [.ins _ _], e | [.cls _], e | [.err _ _], e | [.lam _ _], e | [.unp _], e | [.mtb _], e | [.scr _], e | [.dct _ _], e | [.tup _], e | [.str _], e => simp [biO] at e
theorem foldl_max : ∀ (l : List Int) (a : Int), l.foldl max a ∈ a :: l ∧ ∀ y ∈ a :: l, y ≤ l.foldl max a
  | [], a => ⟨by simp, by simp⟩
  | b :: l, a => by
    obtain ⟨h1, h2⟩ := foldl_max l (max a b)
    rw [List.foldl_cons]
    refine ⟨?_, fun y hy => ?_⟩
    · rcases List.mem_cons.mp h1 with h1 | h1
      · rw [h1]
        by_cases q : a ≤ b
        · rw [Int.max_eq_right q]; simp
        · rw [Int.max_eq_left (by omega)]; simp
      · simp [h1]
    · have hm := h2 (max a b) (by simp)
      rcases List.mem_cons.mp hy with rfl | hy
      · exact Int.le_trans (Int.le_max_left _ _) hm
      · rcases List.mem_cons.mp hy with rfl | hy
        · exact Int.le_trans (Int.le_max_right _ _) hm
        · exact h2 y (by simp [hy])
theorem bi_maxl (hc : X.calm = true) : CallR X (.builtin "max") (rBi X .maxl) := by
  intro pins s σ H xs us Q I r h
  obtain ⟨J, M, ds, d, hd, ha, e, q⟩ := h
  match ds, e with
  | [.lst l], e =>
    obtain ⟨x, rfl, r1⟩ := ha.one
    obtain ⟨a, ys, rfl, h1, h2⟩ := r1.lst hd
    simp only [biO] at e
    obtain ⟨ns, hn, e⟩ := Option.bind_eq_some_iff.mp e
    rw [mapO_ints hn] at h2
    have := h2.ints
    subst this
    cases ns with
    | nil => cases e
    | cons m ns =>
      cases e
      refine cr_max hc pins s σ H _ us Q I r ⟨a, m :: ns, rfl, SqL.of h1, by simp, fun z hz hle => ?_⟩
      obtain ⟨f1, f2⟩ := foldl_max ns m
      have : z = ns.foldl max m := Int.le_antisymm (f2 z hz) (hle _ f1)
      subst this
      exact q.sh hd (.int _)
  | [], e => simp [biO] at e
  | _ :: _ :: _, e => simp [biO] at e
  | [.non], e | [.bl _], e | [.int _], e | [.ins _ _], e | [.cls _], e | [.err _ _], e | [.lam _ _], e | [.unp _], e | [.mtb _], e | [.scr _], e | [.dct _ _], e | [.tup _], e | [.str _], e => simp [biO] at e
theorem bi_sum (hc : X.calm = true) : CallR X (.builtin "sum") (rBi X .sum) := by
  intro pins s σ H xs us Q I r h
  obtain ⟨J, M, ds, d, hd, ha, e, q⟩ := h
  match ds, e with
  | [.lst l], e =>
    obtain ⟨x, rfl, r1⟩ := ha.one
    obtain ⟨a, ys, rfl, h1, h2⟩ := r1.lst hd
    simp only [biO] at e
    obtain ⟨ns, hn, e⟩ := Option.map_eq_some_iff.mp e
    rw [mapO_ints hn] at h2
    have := h2.ints
    subst this; subst e
    exact cr_sum hc pins s σ H _ us Q I r ⟨a, ns, rfl, SqL.of h1, q.sh hd (.int _)⟩
  | [], e => simp [biO] at e
  | _ :: _ :: _, e => simp [biO] at e
  | [.non], e | [.bl _], e | [.int _], e | [.ins _ _], e | [.cls _], e | [.err _ _], e | [.lam _ _], e | [.unp _], e | [.mtb _], e | [.scr _], e | [.dct _ _], e | [.tup _], e | [.str _], e => simp [biO] at e
/-! ### dicts written down -/
theorem putK_any {kvs : List (Key × V)} {k : Key} : (kvs.any fun kv => decide (kv.1 = k)) = true ↔ k ∈ kvs.map (·.1) := by
  simp [List.any_eq_true]
theorem putKey_rep {J : Jt} {v : V} {d : D} (rv : Rep X.K X.w J v d) (k : Key) : ∀ {kvs : List (Key × V)} {vs : List D}, (kvs.map (·.1)).Nodup → RepL X.K X.w J (kvs.map (·.2)) vs →
    ((putK kvs k v).map (·.1)).Nodup ∧ (putKey (keyD k) d (kvs.map fun p => keyD p.1) vs).1 = ((putK kvs k v).map fun p => keyD p.1) ∧ RepL X.K X.w J ((putK kvs k v).map (·.2)) (putKey (keyD k) d (kvs.map fun p => keyD p.1) vs).2
  | [], vs, nd, r => by
    cases r
    simp [putK, putKey]
    exact .one rv
  | p :: kvs, vs, nd, r => by
    have hk : isKey (keyD k) = true := by cases k <;> rfl
    simp only [List.map_cons, List.nodup_cons] at nd
    cases r with
    | cons h t =>
      simp only [List.map_cons, putKey, eqD_key p.1 (keyD k) hk k rfl]
      obtain ⟨i1, i2, i3⟩ := putKey_rep rv k nd.2 t
      by_cases e : p.1 = k
      · rw [decide_eq_true e]
        have hno : ∀ q ∈ kvs, ¬ q.1 = k := fun q hq z => nd.1 (List.mem_map.mpr ⟨q, hq, z.trans e.symm⟩)
        have e1 : putK (p :: kvs) k v = (k, v) :: kvs := by
          unfold putK
          rw [if_pos (by simp [e])]
          rw [List.map_cons, if_pos e]
          congr 1
          · rw [e]
          · conv => rhs; rw [← List.map_id kvs]
            exact List.map_congr_left fun q hq => by rw [if_neg (hno q hq)]; rfl
        rw [e1]
        refine ⟨?_, ?_, ?_⟩
        · simp only [List.map_cons, List.nodup_cons]
          exact ⟨fun hm => nd.1 (by rw [e]; exact hm), nd.2⟩
        · simp [e]
        · simp only [if_true, List.map_cons]
          exact .cons rv t
      · rw [decide_eq_false e]
        have e1 : putK (p :: kvs) k v = p :: putK kvs k v := by
          unfold putK
          rw [show ((p :: kvs).any fun kv => decide (kv.1 = k)) = (kvs.any fun kv => decide (kv.1 = k)) by simp [e]]
          split
          · rw [List.map_cons, if_neg e]
          · rfl
        rw [e1]
        simp only [Bool.false_eq_true, if_false, List.map_cons]
        refine ⟨?_, by rw [i2], .cons h i3⟩
        rw [List.nodup_cons]
        refine ⟨fun hm => ?_, i1⟩
        obtain ⟨q, hq, ez⟩ := List.mem_map.mp hm
        unfold putK at hq
        split at hq
        · obtain ⟨q', hq', rfl⟩ := List.mem_map.mp hq
          refine nd.1 (List.mem_map.mpr ⟨q', hq', ?_⟩)
          by_cases z : q'.1 = k
          · rw [if_pos z] at ez; exact ez
          · rw [if_neg z] at ez; exact ez
        · rcases List.mem_append.mp hq with hq | hq
          · exact nd.1 (List.mem_map.mpr ⟨q, hq, ez⟩)
          · have : q = (k, v) := by simpa using hq
            subst this
            exact e ez.symm
theorem putAll_rep {J : Jt} : ∀ {ps : List (D × D)} {more kvs : List (Key × V)} {vs : List D}, (kvs.map (·.1)).Nodup → RepL X.K X.w J (kvs.map (·.2)) vs → ps.map (·.1) = (more.map fun p => keyD p.1) → RepL X.K X.w J (more.map (·.2)) (ps.map (·.2)) →
    ((mergeK kvs more).map (·.1)).Nodup ∧ (putAll ps (kvs.map (fun p => keyD p.1), vs)).1 = ((mergeK kvs more).map fun p => keyD p.1) ∧ RepL X.K X.w J ((mergeK kvs more).map (·.2)) (putAll ps (kvs.map (fun p => keyD p.1), vs)).2
  | [], more, kvs, vs, nd, r, hk, hv => by
    have : more = [] := by
      cases more with
      | nil => rfl
      | cons p r => simp at hk
    subst this
    exact ⟨nd, rfl, r⟩
  | (kd, d) :: ps, more, kvs, vs, nd, r, hk, hv => by
    cases more with
    | nil => simp at hk
    | cons p more =>
      simp only [List.map_cons, List.cons.injEq] at hk
      simp only [List.map_cons] at hv
      cases hv with
      | cons hv tv =>
        obtain ⟨i1, i2, i3⟩ := putKey_rep hv p.1 nd r
        have := putAll_rep (ps := ps) (more := more) (kvs := putK kvs p.1 p.2) (vs := (putKey (keyD p.1) d (kvs.map fun p => keyD p.1) vs).2) i1 i3 hk.2 tv
        show ((mergeK (putK kvs p.1 p.2) more).map (·.1)).Nodup ∧ (putAll ps (putKey kd d (kvs.map fun p => keyD p.1) vs)).1 = ((mergeK (putK kvs p.1 p.2) more).map fun p => keyD p.1) ∧
          RepL X.K X.w J ((mergeK (putK kvs p.1 p.2) more).map (·.2)) (putAll ps (putKey kd d (kvs.map fun p => keyD p.1) vs)).2
        rw [hk.1]
        rw [show putKey (keyD p.1) d (kvs.map fun p => keyD p.1) vs = (((putK kvs p.1 p.2).map fun p => keyD p.1), (putKey (keyD p.1) d (kvs.map fun p => keyD p.1) vs).2) from Prod.ext i2 rfl]
        exact this
end
end MP
end

section
set_option linter.all false
set_option Elab.async false
set_option maxRecDepth 100000
set_option maxHeartbeats 4000000
namespace MP
open PySem PySem.Spec PyProof.Rows L2
section
variable {S : Cs} {Y : Ctx} {ER : ExR} {k : Nat} {W : WX} {X : Cx}
/-- isinstance with own classes -/
theorem e_isiO {x : Str} {t : Ty} {ct : Nat} {a : Expr} {ca : C} {p p2 pos : Pos} (ok : XOk S Y ER k W X) (hg : isGl S "isinstance" = true) (hx : S.clss.lookup x = some ct) (hgt : isGl S x = true) (ht : (t = .gate ∧ ct = 0) ∨ (t = .box ∧ ct = 1))
    (ha : PE X a (rdB Y ER W X ca)) (na : ∀ rest env, starEach (a :: rest) env = (false, eval a env) :: starEach rest env) : PE X (.Call (.Name "isinstance" p) [a, .Name x p2] [] pos) (rdE Y ER W X (.isi ca t)) := by
  obtain ⟨hdb, hcn, C, hC, hm, _⟩ := ok.G.clsn x ct hx
  have hty : PE X (.Name x p2) (tC (.ref C)) := pe_glob (gl_of ok hgt) hm rfl hdb
  have hcl2 : ct < clsTab.length := by
    rcases ht with ⟨_, rfl⟩ | ⟨_, rfl⟩ <;> decide
  have ns : NoStar [a, .Name x p2] := NoStar.cons na (NoStar.cons (fun _ _ => rfl) NoStar.nil)
  obtain ⟨p0, hp0⟩ : ∃ p0, clsTab[ct]? = some p0 := ⟨_, List.getElem?_eq_getElem hcl2⟩
  obtain ⟨nm0, fn0, b0⟩ := p0
  have F := clsB_ok (ok.G.cls ct) hp0 hC
  refine PE.imp (pe_callB call_isi (gl_of ok hg) (ok.blt _ (by simp)) boot_isinstance (pa_cons ha (pa_cons hty pa_nil rfl) (na _ _)) (by decide) (by decide) (na _ _) (ns.tail.back _ _)) fun σ H Q h => ?_
  obtain ⟨J, M, e, hd, sl, h⟩ := h
  rw [show den Y (.isi ca t) e = _ from rfl] at h
  refine rd_seqB hd sl h fun y M1 J1 H1 v g1 hd1 sl1 r1 h1 => ?_
  obtain ⟨a', e', q⟩ := orBad_some h1 hd1
  obtain ⟨b, ed, rfl⟩ := Option.map_eq_some_iff.mp e'
  obtain ⟨d, o⟩ := y
  have q' := q J1 H1 (.refl _ _) hd1 _ (.bl b)
  have plain : plainTy d = true → b = false → PySem.W.kitOne X.K (.type (tyD d)) (.ref C) = some b := fun hp hb => by
    rw [hb]
    exact F.k1 _ (by cases d <;> simp [tyD] <;> simp [plainTy] at hp)
  cases d with
  | ins c l =>
    obtain ⟨C1, hC1, T⟩ := tyX_ins hd1 ok.G.cls r1.insR
    refine ⟨v, .ref C, .ref C1, .ref C, b, rfl, ClsV.own C, T, ?_, q'⟩
    obtain ⟨a1, C2, dx, s, nm, fn, vs, rfl, i⟩ := r1.insR.insR
    have F1 := clsB_ok (ok.G.cls c) i.hc i.at_
    have : C2 = C1 := by have := i.at_; rw [hC1] at this; cases this; rfl
    subst this
    rw [F1.k3 ct C hcl2 hC]
    rcases ht with ⟨rfl, rfl⟩ | ⟨rfl, rfl⟩ <;> simpa [isO] using ed
  | cls _ => rcases ht with ⟨rfl, _⟩ | ⟨rfl, _⟩ <;> simp [isO] at ed
  | err _ _ => rcases ht with ⟨rfl, _⟩ | ⟨rfl, _⟩ <;> simp [isO] at ed
  | lam _ _ => rcases ht with ⟨rfl, _⟩ | ⟨rfl, _⟩ <;> simp [isO] at ed
  | unp _ => rcases ht with ⟨rfl, _⟩ | ⟨rfl, _⟩ <;> simp [isO] at ed
  | _ => exact ⟨v, .ref C, .type _, .ref C, b, rfl, ClsV.own C, r1.ty hd1 rfl, plain rfl (by rcases ht with ⟨rfl, _⟩ | ⟨rfl, _⟩ <;> simpa [isO] using ed.symm), q'⟩
end
end MP
end

section
set_option linter.all false
set_option Elab.async false
set_option maxRecDepth 100000
set_option maxHeartbeats 4000000
namespace MP
open PySem PySem.Spec PyProof.Rows L2
section
variable {S : Cs} {Y : Ctx} {ER : ExR} {k : Nat} {W : WX} {X : Cx}
/-- an object that is only ours stays while others are evaluated -/
theorem Own.put {J : Jt} {M : Mem} {H : Hp} {a : Addr} {d d' : D} {o : HO} (hd : Hold X.K X.w J M H) (h : Own X.K X.w J H a d) (r : ORep X.K X.w J o d') : Hold X.K X.w J M (upd H a o) ∧ Own X.K X.w J (upd H a o) a d' := by
  obtain ⟨o0, h1, h2, h3, _⟩ := h
  refine ⟨⟨fun b u e => ?_, hd.len, fun n mo e => ?_, hd.nd, fun s d hs => ?_⟩, o, upd_same, h2, h3, r⟩
  · rw [upd_ne (by rintro rfl; rw [h2] at e; cases e)]; exact hd.I b u e
  · obtain ⟨x, u, q1, q2, q3, q4⟩ := hd.m n mo e
    refine ⟨x, u, q1, ?_, q3, q4⟩
    rw [upd_ne (by rintro rfl; exact h3.1 (List.mem_of_getElem? q1))]; exact q2
  · obtain ⟨kvs, q1, q2, q3, q4⟩ := hd.c s d hs
    refine ⟨kvs, ?_, q2, q3, q4⟩
    rw [upd_ne (by rintro rfl; rw [h3.2] at hs; cases hs)]; exact q1
theorem Go.put {J J' : Jt} {H H' : Hp} {a : Addr} {o : HO} (g : Go J H J' H') (hn : H a = none) : Go J H J' (upd H' a o) := by
  refine ⟨g.ext, g.newI, g.newR, g.newC, fun b u h hr => ?_, fun b h => ?_⟩
  · rw [upd_ne (by rintro rfl; rw [hn] at h; cases h)]; exact g.keep b u h hr
  · by_cases e : b = a
    · subst e; rw [upd_same]; rfl
    · rw [upd_ne e]; exact g.keepR b h
theorem keyD_of {d : D} (h : isKey d = true) {K : PySem.W.Frag} {w : World} {J : Jt} {v : V} (r : Rep K w J v d) : ∃ k : Key, d = keyD k ∧ v = kV k := isKey_keyD (H := fun _ => none) h (.inl r)
theorem pairs_rep {K : PySem.W.Frag} {w : World} {J : Jt} : ∀ {ps : List (D × D)} {vs : List (V × V)}, (ps.map (·.1)).all isKey = true → RepL K w J (vs.map (·.1)) (ps.map (·.1)) → RepL K w J (vs.map (·.2)) (ps.map (·.2)) →
    ∃ kvs : List (Key × V), vs = kvs.map (fun kv => (kV kv.1, kv.2)) ∧ ps.map (·.1) = kvs.map (fun p => keyD p.1) ∧ RepL K w J (kvs.map (·.2)) (ps.map (·.2))
  | [], [], _, _, _ => ⟨[], rfl, rfl, .nil⟩
  | [], v :: vs, _, h, _ => by cases h
  | p :: ps, [], _, h, _ => by cases h
  | (d, e) :: ps, (x, y) :: vs, hk, h1, h2 => by
    simp only [List.map_cons, List.all_cons, Bool.and_eq_true] at hk h1 h2
    cases h1 with
    | cons r1 t1 => cases h2 with
      | cons r2 t2 =>
        obtain ⟨kvs, e1, e2, e3⟩ := pairs_rep hk.2 t1 t2
        obtain ⟨k, rfl, rfl⟩ := keyD_of hk.1 r1
        exact ⟨(k, y) :: kvs, by simp [e1], by simp [e2], .cons r2 e3⟩
theorem pairsD_some : ∀ {ds : List D} {ps : List (D × D)}, pairsD ds = some ps → ∀ {K : PySem.W.Frag} {w : World} {J : Jt} {vs : List V}, RepL K w J vs ds → ∃ vps : List (V × V), vs = vps.flatMap (fun p => [p.1, p.2]) ∧ RepL K w J (vps.map (·.1)) (ps.map (·.1)) ∧ RepL K w J (vps.map (·.2)) (ps.map (·.2))
  | [], ps, h, _, _, _, _, r => by simp [pairsD] at h; subst h; cases r; exact ⟨[], rfl, .nil, .nil⟩
  | [_], ps, h, _, _, _, _, r => by simp [pairsD] at h
  | a :: b :: ds, ps, h, _, _, _, _, r => by
    simp only [pairsD] at h
    obtain ⟨ps', h1, rfl⟩ := Option.map_eq_some_iff.mp h
    cases r with
    | @cons va _ _ _ ra ra' => cases ra' with
      | @cons vb _ vt _ rb rt =>
        obtain ⟨vps, e1, e2, e3⟩ := pairsD_some h1 rt
        exact ⟨(va, vb) :: vps, by simp [e1], .cons ra e2, .cons rb e3⟩
/-- the pairs of a display, read by one list of expressions -/
theorem pairs_read : ∀ {prs : List (C × C)} {σ : L2.St} {H : Hp} {J : Jt} {M : Mem} {e : MP.Env} {Qp : List (V × V) → Hp → Prop}, Hold X.K X.w J M H → Slots X.K X.w J H σ e →
    ResG X ER W σ J H (denL Y (prs.flatMap fun p => [p.1, p.2]) e M) (fun ds _ J' H' => ∀ vps : List (V × V), RepL X.K X.w J' (vps.flatMap fun p => [p.1, p.2]) ds → Qp vps H') →
    tPairs (prs.map fun p => (rdE Y ER W X p.1, rdE Y ER W X p.2)) σ H Qp
  | [], σ, H, J, M, e, Qp, hd, sl, h => h J H (.refl _ _) hd [] .nil
  | (c1, c2) :: prs, σ, H, J, M, e, Qp, hd, sl, h => by
    have h' : ResG X ER W σ J H (MM.bind (den Y c1 e) (fun x => MM.bind (MM.bind (den Y c2 e) fun y => MM.bind (denL Y (prs.flatMap fun p => [p.1, p.2]) e) fun xs => MM.pure (y.1 :: xs)) fun xs => MM.pure (x.1 :: xs)) M) _ := h
    show rdE Y ER W X c1 σ H _
    refine rd_seq hd sl h' fun x M1 J1 H1 v g1 hd1 sl1 r1 h1 => ?_
    have h1' : ResG X ER W σ J1 H1 (MM.bind (den Y c2 e) (fun y => MM.bind (denL Y (prs.flatMap fun p => [p.1, p.2]) e) fun xs => MM.pure (x.1 :: y.1 :: xs)) M1) (fun ds _ J' H' => ∀ vps : List (V × V), RepL X.K X.w J' (vps.flatMap fun p => [p.1, p.2]) ds → Qp vps H') := by
      have e2 : ∀ M, MM.bind (MM.bind (den Y c2 e) fun y => MM.bind (denL Y (prs.flatMap fun p => [p.1, p.2]) e) fun xs => MM.pure (y.1 :: xs)) (fun xs => MM.pure (x.1 :: xs)) M = MM.bind (den Y c2 e) (fun y => MM.bind (denL Y (prs.flatMap fun p => [p.1, p.2]) e) fun xs => MM.pure (x.1 :: y.1 :: xs)) M := by
        intro M
        unfold MM.bind MM.pure
        cases den Y c2 e M with
        | ok y M1 => dsimp only; cases denL Y (prs.flatMap fun p => [p.1, p.2]) e M1 <;> rfl
        | exc _ _ _ => rfl
        | bad => rfl
      rw [e2] at h1
      exact h1
    refine rd_seq hd1 sl1 h1' fun y M2 J2 H2 u g2 hd2 sl2 r2 h2 => ?_
    refine pairs_read hd2 sl2 ?_
    unfold MM.bind at h2
    cases q : denL Y (prs.flatMap fun p => [p.1, p.2]) e M2 with
    | ok ds M3 =>
      rw [q] at h2
      intro J3 H3 g3 hd3 vps r
      exact h2 J3 H3 g3 hd3 ((v, u) :: vps) (.cons ((r1.ext g2.ext).ext g3.ext) (.cons (r2.ext g3.ext) r))
    | exc c p M3 => rw [q] at h2; exact h2
    | bad => rw [q] at h2; exact h2
theorem e_dct {keys : List (Option Expr)} {values : List Expr} {prs : List (C × C)} {pos : Pos} (h : PPs X pos keys values (prs.map fun p => (rdE Y ER W X p.1, rdE Y ER W X p.2))) (hall : keys.all (·.isSome) = true) (hl : keys.length = values.length) (h15 : keys.length ≤ 15) (hp : prs.length = keys.length) :
    PE X (.Dict keys values pos) (rdE Y ER W X (.dct (prs.flatMap fun p => [p.1, p.2]))) := by
  cases keys with
  | nil =>
    have : values = [] := List.length_eq_zero_iff.mp (by simpa using hl.symm)
    subst this
    have : prs = [] := List.length_eq_zero_iff.mp hp
    subst this
    refine PE.imp pe_dnewK fun σ H Q h => ?_
    obtain ⟨J, M, e, hd, sl, h⟩ := h
    intro p hp
    obtain ⟨a, b, c⟩ := new_own (d := .dct [] []) hd hp (.dct (kvs := []) (by simp) rfl .nil)
    exact h J _ a b _ c
  | cons k0 keys =>
    refine PE.imp (pe_disp h hall hl (by simp) h15) fun σ H Q h => ?_
    obtain ⟨J, M, e, hd, sl, h⟩ := h
    intro p hp
    obtain ⟨g0, hd0, p', ep, _, own0⟩ := new_own (d := .dct [] []) hd hp (.dct (kvs := []) (by simp) rfl .nil)
    cases ep
    have e1 : den Y (.dct (prs.flatMap fun p => [p.1, p.2])) e = MM.bind (denL Y (prs.flatMap fun p => [p.1, p.2]) e) fun ds => match pairsD ds with
      | some ps => if ps.length ≤ 15 && (ps.map (·.1)).all isKey then MM.pure (let r := putAll ps ([], []); .dct r.1 r.2, true) else bad
      | none => bad := rfl
    rw [e1] at h
    refine pairs_read hd0 (sl.go g0) ?_
    unfold MM.bind at h
    cases q : denL Y (prs.flatMap fun p => [p.1, p.2]) e M with
    | ok ds M1 =>
      rw [q] at h
      intro J1 H1 g1 hd1 vps r
      dsimp only at h
      have own1 := own0.go g1
      obtain ⟨o1, ho1, hI1, hr1, or1⟩ := id own1
      have ho : H1 p = some (.dK []) := g1.keep p _ upd_same (hd.fresh hp).2
      cases qp : pairsD ds with
      | none => rw [qp] at h; exact h.elim
      | some ps =>
        rw [qp] at h
        dsimp only at h
        split at h
        · rename_i hc
          simp only [Bool.and_eq_true, decide_eq_true_eq] at hc
          obtain ⟨vps', e2, k1, k2⟩ := pairsD_some qp r
          have e3 : vps' = vps := by
            have inj : ∀ (a b : List (V × V)), a.flatMap (fun p => [p.1, p.2]) = b.flatMap (fun p => [p.1, p.2]) → a = b := by
              intro a
              induction a with
              | nil => intro b h; cases b with
                | nil => rfl
                | cons => simp at h
              | cons x a ih => intro b h; cases b with
                | nil => simp at h
                | cons y b =>
                  simp only [List.flatMap_cons, List.cons_append, List.nil_append, List.cons.injEq] at h
                  rw [ih b h.2.2]
                  congr 1
                  exact Prod.ext h.1 h.2.1
            exact (inj _ _ e2).symm
          subst e3
          obtain ⟨kvs, v1, v2, v3⟩ := pairs_rep hc.2 k1 k2
          refine ⟨ho, kvs, v1, ?_, ?_⟩
          · have := (RepL.len v3); rw [List.length_map, List.length_map] at this; rw [this]; exact hc.1
          · obtain ⟨n1, n2, n3⟩ := putAll_rep (ps := ps) (more := kvs) (kvs := []) (vs := []) (by simp) .nil v2 v3
            obtain ⟨hd2, own2⟩ := Own.put (d' := .dct (putAll ps ([], [])).1 (putAll ps ([], [])).2) (o := .dK (mergeK [] kvs)) hd1 own1 (.dct n1 n2 n3)
            exact h J1 _ ((g0.trans g1).put hp) hd2 _ ⟨p, rfl, hp, own2⟩
        · exact h.elim
    | exc c p0 M1 => rw [q] at h; exact ResG.shift (r := (.exc c p0 M1 : R (List D))) (post := fun ds _ J' H' => ∀ vps : List (V × V), RepL X.K X.w J' (vps.flatMap fun p => [p.1, p.2]) ds → _) h g0
    | bad => rw [q] at h; exact h.elim
end
end MP
end

section
set_option linter.all false
set_option Elab.async false
set_option maxRecDepth 100000
set_option maxHeartbeats 4000000
namespace MP
open PySem PySem.Spec PyProof.Rows L2
section
variable {S : Cs} {Y : Ctx} {ER : ExR} {k : Nat} {W : WX} {X : Cx}
theorem Slots.put {K : PySem.W.Frag} {w : World} {J : Jt} {H : Hp} {σ : L2.St} {e : MP.Env} (h : Slots K w J H σ e) {i : Nat} {v : V} {d : D} (r : Rep K w J v d) : Slots K w J H (σ.set i (some v)) (e.set i (some (d, false))) := by
  refine ⟨by simp [h.len], fun j d' he => ?_, fun j d' he => ?_, fun j j' d' d'' a h1 h2 h3 h4 => ?_⟩
  · by_cases hj : i = j
    · subst hj
      have hi : i < e.length := by
        have := (List.getElem?_eq_some_iff.mp he).1
        simpa using this
      rw [List.getElem?_set_self hi] at he
      cases he
      exact ⟨v, List.getElem?_set_self (by rw [h.len]; exact hi), r⟩
    · rw [List.getElem?_set_ne hj] at he
      obtain ⟨u, h1, h2⟩ := h.sh j d' he
      exact ⟨u, by rw [List.getElem?_set_ne hj]; exact h1, h2⟩
  · by_cases hj : i = j
    · subst hj
      have hi : i < e.length := by
        have := (List.getElem?_eq_some_iff.mp he).1
        simpa using this
      rw [List.getElem?_set_self hi] at he
      cases he
    · rw [List.getElem?_set_ne hj] at he
      obtain ⟨u, h1, h2⟩ := h.own j d' he
      exact ⟨u, by rw [List.getElem?_set_ne hj]; exact h1, h2⟩
  · have ne : ∀ {j : Nat} {d' : D}, (e.set i (some (d, false)))[j]? = some (some (d', true)) → i ≠ j := by
      intro j d' he hj
      subst hj
      have hi : i < e.length := by
        have := (List.getElem?_eq_some_iff.mp he).1
        simpa using this
      rw [List.getElem?_set_self hi] at he
      cases he
    have n1 := ne h1
    have n2 := ne h2
    rw [List.getElem?_set_ne n1] at h1 h3
    rw [List.getElem?_set_ne n2] at h2 h4
    exact h.apart j j' d' d'' a h1 h2 h3 h4
/-- no slots but such were set -/
def Only (ix : List Nat) (σ σ' : L2.St) : Prop := ∀ vs : List Nat, (∀ i ∈ ix, i ∈ vs) → wipe σ' vs = wipe σ vs
theorem Only.refl (ix : List Nat) (σ : L2.St) : Only ix σ σ := fun _ _ => rfl
theorem wipe_set {σ : L2.St} {i : Nat} {x : Option V} : ∀ {vs : List Nat}, i ∈ vs → wipe (σ.set i x) vs = wipe σ vs
  | [], h => by cases h
  | v :: vs, h => by
    unfold wipe
    by_cases hv : i ∈ vs
    · rw [wipe_set hv]
    · have e : v = i := by
        rcases List.mem_cons.mp h with h | h
        · exact h.symm
        · exact absurd h hv
      subst e
      have : ∀ (ws : List Nat), v ∉ ws → wipe (σ.set v x) ws = (wipe σ ws).set v x := by
        intro ws
        induction ws with
        | nil => intro _; rfl
        | cons u ws ih =>
          intro hu
          unfold wipe
          rw [ih (fun z => hu (by simp [z]))]
          exact List.set_comm _ _ (fun z => hu (by simp [z]))
      rw [this vs hv, List.set_set]
/-- a target's reading: nothing but slots changes -/
def gD (X : Cx) (t : Tn) : TG := fun v σ H Q => ∃ J M d e e', Hold X.K X.w J M H ∧ Slots X.K X.w J H σ e ∧ Rep X.K X.w J v d ∧ bindT false t d e = some e' ∧ ∀ σ', Slots X.K X.w J H σ' e' → Only t.ixs σ σ' → Q σ' H
def gDs (X : Cx) (ts : List Tn) : TGs := fun vs σ H Q => ∃ J M ds e e', Hold X.K X.w J M H ∧ Slots X.K X.w J H σ e ∧ RepL X.K X.w J vs ds ∧ bindTs ts ds e = some e' ∧ ∀ σ', Slots X.K X.w J H σ' e' → Only (Tn.ixss ts) σ σ' → Q σ' H
theorem cTns_len : ∀ {n : Nat} {es : List Expr} {ts : List Tn}, cTns S n es = some ts → ts.length = es.length
  | 0, _, _, h => by simp [cTns] at h
  | n + 1, [], ts, h => by simp [cTns] at h; subst h; rfl
  | n + 1, e :: es, ts, h => by
    simp only [cTns] at h
    obtain ⟨a, _, h⟩ := Option.bind_eq_some_iff.mp h
    obtain ⟨r, hr, rfl⟩ := Option.map_eq_some_iff.mp h
    simp [cTns_len hr]
/-- plain targets -/
def NoStarT (es : List Expr) : Prop := ∀ env, assignEach es env = es.map fun e => (false, assign e env)
theorem cTns_ns : ∀ {n : Nat} {es : List Expr} {ts : List Tn}, cTns S n es = some ts → NoStarT es
  | 0, _, _, h => by simp [cTns] at h
  | n + 1, [], ts, h => fun _ => rfl
  | n + 1, e :: es, ts, h => by
    simp only [cTns] at h
    obtain ⟨a, ha, h⟩ := Option.bind_eq_some_iff.mp h
    obtain ⟨r, hr, rfl⟩ := Option.map_eq_some_iff.mp h
    intro env
    have t := cTns_ns hr env
    cases e <;> first | (show _ :: assignEach es env = _; rw [t]; rfl) | skip
    cases n <;> simp [cTn] at ha
theorem bindTs_len : ∀ {ts : List Tn} {ds : List D} {e e' : MP.Env}, bindTs ts ds e = some e' → ds.length = ts.length
  | [], [], _, _, _ => rfl
  | [], _ :: _, _, _, h => by simp [bindTs] at h
  | _ :: _, [], _, _, h => by simp [bindTs] at h
  | t :: ts, d :: ds, e, e', h => by
    simp only [bindTs] at h
    obtain ⟨a, _, h⟩ := Option.bind_eq_some_iff.mp h
    simp [bindTs_len h]
mutual
theorem pg_tn : ∀ (n : Nat) {e : Expr} {t : Tn}, cTn S n e = some t → XOk S Y ER k W X → PG X e (gD X t)
  | 0, e, t, h, _ => by simp [cTn] at h
  | n + 1, e, t, h, ok => by
    cases e <;> simp only [cTn, reduceCtorEq] at h
    · rename_i x pos
      split at h
      · cases h
      · have fin : ∀ kd, S.sc.names.lookup x = some kd → (kd = .local ∨ kd = .cell) → (S.N.findIdx? (· == x)).map Tn.name = some t → PG X (.Name x pos) (gD X t) := by
          intro kd hk hkd hm
          obtain ⟨i, hi, rfl⟩ := Option.map_eq_some_iff.mp hm
          have hN : X.N[i]? = some x := by rw [ok.N]; exact findIdx_get hi
          have hx : X.env.scope.names.lookup x = some kd := by
            rcases ok.sc x kd hk with h | ⟨e, _⟩
            · exact h
            · subst e; rcases hkd with h | h <;> cases h
          have hf : X.fn x = true ∨ X.env.scope.names.lookup x = some .local := by
            rcases hkd with rfl | rfl
            · exact .inr hx
            · exact .inl (ok.fn x hk)
          refine ⟨fun pins s σ H v u Q I r h => ?_⟩
          obtain ⟨J, M, d, e, e', hd, sl, rv, hb, q⟩ := h
          simp only [bindT, Option.some.injEq] at hb
          subst hb
          exact (pg_name (by rw [ok.N]; exact ok.nd) hN (by rcases hkd with rfl | rfl; exact .inl hx; exact .inr hx) hf).run pins s σ H v u Q I r (q _ (sl.put rv) fun vs hv => wipe_set (hv i (by simp [Tn.ixs])))
        split at h
        · exact fin _ (by assumption) (.inl rfl) h
        · exact fin _ (by assumption) (.inr rfl) h
        · cases h
    · rename_i es j pos
      obtain ⟨ts, hts, rfl⟩ := Option.map_eq_some_iff.mp h
      have hg := pgs_tn n hts ok
      have ns := cTns_ns hts
      have hl := cTns_len hts
      have hn : (assignEach es X.env).length = ts.length := by rw [ns]; simp [hl]
      have hst : (assignEach es X.env).findIdx? (·.1) = none := by
        rw [ns]; simp [List.findIdx?_eq_none_iff]
      refine ⟨fun pins s σ H v u Q I r h => ?_⟩
      obtain ⟨J, M, d, e, e', hd, sl, rv, hb, q⟩ := h
      cases d <;> simp only [bindT, reduceCtorEq] at hb
      · cases rv with
        | tup j1 l1 =>
          refine (pg_tup (n := ts.length) ok.calm hg hn hst).run pins s σ H _ u Q I r ⟨_, _, rfl, hd.sqT j1, ?_, J, M, _, e, e', hd, sl, l1, hb, q⟩
          rw [l1.len]; exact bindTs_len hb
      · cases rv with
        | lst j1 l1 =>
          refine (pg_unl (n := ts.length) ok.calm hg hn hst).run pins s σ H _ u Q I r ⟨_, _, rfl, hd.sqL j1, ?_, J, M, _, e, e', hd, sl, l1, hb, q⟩
          rw [l1.len]; exact bindTs_len hb
      · cases rv with
        | unp j1 l1 =>
          refine (pg_tup (n := ts.length) ok.calm hg hn hst).run pins s σ H _ u Q I r ⟨_, _, rfl, .inl (.inl (hd.I _ _ j1)), ?_, J, M, _, e, e', hd, sl, l1, hb, q⟩
          rw [l1.len]; exact bindTs_len hb
theorem pgs_tn : ∀ (n : Nat) {es : List Expr} {ts : List Tn}, cTns S n es = some ts → XOk S Y ER k W X → PGs X es (gDs X ts)
  | 0, _, _, h, _ => by simp [cTns] at h
  | n + 1, [], ts, h, ok => by
    simp [cTns] at h; subst h
    refine ⟨fun pins s σ H vs us Q I r h => ?_⟩
    obtain ⟨J, M, ds, e, e', hd, sl, rv, hb, q⟩ := h
    cases ds with
    | nil =>
      cases rv
      simp only [bindTs, Option.some.injEq] at hb
      subst hb
      exact pgs_nil.run pins s σ H _ us Q I r ⟨rfl, q σ sl (.refl _ _)⟩
    | cons _ _ => simp [bindTs] at hb
  | n + 1, e0 :: es, ts, h, ok => by
    have ns := cTns_ns h
    simp only [cTns] at h
    obtain ⟨a, ha, h⟩ := Option.bind_eq_some_iff.mp h
    obtain ⟨r0, hr, rfl⟩ := Option.map_eq_some_iff.mp h
    have h1 := pg_tn n ha ok
    have h2 := pgs_tn n hr ok
    have nst := cTns_ns hr
    refine ⟨fun pins s σ H vs us Q I r h => ?_⟩
    obtain ⟨J, M, ds, e, e', hd, sl, rv, hb, q⟩ := h
    cases ds with
    | nil => simp [bindTs] at hb
    | cons d ds =>
      cases rv with
      | @cons v _ vt _ rv rt =>
        simp only [bindTs] at hb
        obtain ⟨e1, hb1, hb2⟩ := Option.bind_eq_some_iff.mp hb
        refine (pgs_cons h1 h2 (by rw [ns, nst]; rfl)).run pins s σ H _ us Q I r ⟨v, vt, rfl, J, M, d, e, e1, hd, sl, rv, hb1, fun σ' sl' o1 => ⟨J, M, ds, e1, e', hd, sl', rt, hb2, fun σ2 sl2 o2 => q σ2 sl2 fun vs hv => (o2 vs fun i hi => hv i (by simp [Tn.ixss, hi])).trans (o1 vs fun i hi => hv i (by simp [Tn.ixss, hi]))⟩⟩
end
end
end MP
end

section
set_option linter.all false
set_option Elab.async false
set_option maxRecDepth 100000
set_option maxHeartbeats 4000000
namespace MP
open PySem PySem.Spec PyProof.Rows L2
section
variable {S : Cs} {Y : Ctx} {ER : ExR} {k : Nat} {W : WX} {X : Cx}
/-- an iterator that walks some items, whatever else goes on -/
def ItOk (X : Cx) (it : It) (J0 : Jt) (items : List D) : Prop := ∀ i J M H, Ext J0 J → Hold X.K X.w J M H →
  (items.length ≤ i → it.stop i H) ∧ ∀ d, items[i]? = some d → it.go i H ∧ ∀ x H', it.yld i H x H' → ∃ J', Go J H J' H' ∧ Hold X.K X.w J' M H' ∧ Rep X.K X.w J' x d
def rdI (Y : Ctx) (ER : ExR) (W : WX) (X : Cx) (kk : ItK) (cs : List C) : TI := fun σ H R => ∃ J M e, Hold X.K X.w J M H ∧ Slots X.K X.w J H σ e ∧
  ResG X ER W σ J H (MM.bind (denL Y cs e) (fun ds => orBad (itO kk ds)) M) fun items _ J' H' => ∀ it, ItOk X it J' items → R it H'
theorem itOk_list {J0 : Jt} {a : Addr} {xs : List V} {ds : List D} (j : JL J0 a xs) (r : RepL X.K X.w J0 xs ds) : ItOk X (Itl X.K a) J0 ds := by
  intro i J M H ex hd
  have hs : SqL X.K H a xs := hd.sqL (j.ext ex)
  refine ⟨fun h => ⟨xs, hs, by rw [r.len]; exact h⟩, fun d hi => ?_⟩
  obtain ⟨v, h1, h2⟩ := r.get hi
  refine ⟨⟨xs, v, hs, h1⟩, fun x H' y => ?_⟩
  obtain ⟨rfl, y⟩ := y
  have := y xs hs
  rw [h1] at this; cases this
  exact ⟨J, .refl _ _, hd, h2.ext ex⟩
theorem itOk_tup {J0 : Jt} {a : Addr} {xs : List V} {ds : List D} (j : JT X.K J0 a xs) (r : RepL X.K X.w J0 xs ds) : ItOk X (Itt X.K a) J0 ds := by
  intro i J M H ex hd
  have hs : SqT X.K H a xs := hd.sqT (j.ext ex)
  refine ⟨fun h => ⟨xs, hs, by rw [r.len]; exact h⟩, fun d hi => ?_⟩
  obtain ⟨v, h1, h2⟩ := r.get hi
  refine ⟨⟨xs, v, hs, h1⟩, fun x H' y => ?_⟩
  obtain ⟨rfl, y⟩ := y
  have := y xs hs
  rw [h1] at this; cases this
  exact ⟨J, .refl _ _, hd, h2.ext ex⟩
theorem itOk_str {J0 : Jt} {s : List Nat} (hc : ∀ c ∈ s, c < 1114112) : ItOk X (Its (sOf s)) J0 (s.map fun c => .str [c]) := by
  intro i J M H ex hd
  have e : (sOf s).cps.size = s.length := by simp [sOf]
  refine ⟨fun h => by show (sOf s).cps.size ≤ i; rw [e]; simpa using h, fun d hi => ?_⟩
  rw [List.getElem?_map] at hi
  obtain ⟨c, h1, rfl⟩ := Option.map_eq_some_iff.mp hi
  refine ⟨by show i < (sOf s).cps.size; rw [e]; exact (List.getElem?_eq_some_iff.mp h1).1, fun x H' y => ?_⟩
  obtain ⟨rfl, c', h2, rfl⟩ := y
  have : (sOf s).cps[i]? = s[i]? := by simp [sOf]
  rw [this, h1] at h2
  cases h2
  exact ⟨J, .refl _ _, hd, .str [c] (by show 1 ≤ szLine; decide) fun x hx => by
    have : x = c := by simpa using hx
    subst this
    exact hc x (List.mem_of_getElem? h1)⟩
theorem itOk_rng {J0 : Jt} (a b : Int) : ItOk X (Itr a (b - a).toNat) J0 (rangeL a b) := by
  intro i J M H ex hd
  refine ⟨fun h => by
    show (b - a).toNat ≤ i
    simp only [rangeL, List.length_map, List.length_range] at h
    exact h, fun d hi => ?_⟩
  unfold rangeL at hi
  rw [List.getElem?_map] at hi
  obtain ⟨j, h1, rfl⟩ := Option.map_eq_some_iff.mp hi
  obtain ⟨h2, h3⟩ := List.getElem?_eq_some_iff.mp h1
  have h2' : i < (b - a).toNat := by simpa using h2
  have h3' : i = j := by simpa using h3
  subst h3'
  refine ⟨h2', fun x H' y => ?_⟩
  obtain ⟨rfl, rfl⟩ := y
  exact ⟨J, .refl _ _, hd, .int _⟩
theorem PI.imp {tg e : Expr} {t t' : TI} (h : PI X tg e t) (f : ∀ σ H R, t' σ H R → t σ H R) : PI X tg e t' := ⟨fun pins s σ H R I q => h.run pins s σ H R I (f σ H R q)⟩
theorem i_seq {tg e : Expr} {c : C} (he : PE X e (rdE Y ER W X c)) : PI X tg e (rdI Y ER W X .seq [c]) := by
  refine ⟨fun pins s σ H R I h => ?_⟩
  obtain ⟨J, M, env, hd, sl, h⟩ := h
  have h' : ResG X ER W σ J H (MM.bind (den Y c env) (fun x => orBad (seqOf x.1)) M) fun items _ J' H' => ∀ it, ItOk X it J' items → R it H' := by
    have e1 : ∀ M, MM.bind (denL Y [c] env) (fun ds => orBad (itO .seq ds)) M = MM.bind (den Y c env) (fun x => orBad (seqOf x.1)) M := by
      intro M
      show MM.bind (MM.bind (den Y c env) fun x => MM.bind (MM.pure []) fun xs => MM.pure (x.1 :: xs)) (fun ds => orBad (itO .seq ds)) M = _
      unfold MM.bind MM.pure
      cases den Y c env M <;> rfl
    rw [e1] at h; exact h
  cases q : den Y c env M with
  | ok x M1 =>
    unfold MM.bind at h'
    rw [q] at h'
    have h2 : ResG X ER W σ J H (orBad (seqOf x.1) M1) fun items _ J' H' => ∀ it, ItOk X it J' items → R it H' := h'
    have go : ∀ (items : List D), seqOf x.1 = some items → ∀ (Q1 : VK), (∀ v J1 H1, Go J H J1 H1 → Hold X.K X.w J1 M1 H1 → Rep X.K X.w J1 v x.1 → (∀ it, ItOk X it J1 items → R it H1) → Q1 v H1) → rdE Y ER W X c σ H Q1 := by
      intro items hi Q1 hk
      refine ⟨J, M, env, hd, sl, ?_⟩
      rw [q]
      intro J1 H1 g hd1 v r
      obtain ⟨J2, g2, hd2, r2⟩ := r.share g hd1
      rw [hi] at h2
      exact hk v J2 H1 g2 hd2 r2 (h2 J2 H1 g2 hd2)
    obtain ⟨d, o⟩ := x
    cases hsq : seqOf d with
    | none => rw [hsq] at h2; exact h2.elim
    | some items =>
      cases d <;> simp only [seqOf, reduceCtorEq, Option.some.injEq] at hsq
      · refine (pi_str he).run pins s σ H R I (go items (by simp [seqOf, hsq]) _ fun v J1 H1 g1 hd1 r1 hR => ?_)
        cases r1 with
        | str _ h1 hc => subst hsq; exact ⟨_, rfl, hR _ (itOk_str hc)⟩
      · refine (pi_tup he).run pins s σ H R I (go items (by simp [seqOf, hsq]) _ fun v J1 H1 g1 hd1 r1 hR => ?_)
        cases r1 with
        | tup j l => subst hsq; exact ⟨_, rfl, ⟨_, hd1.sqT j⟩, hR _ (itOk_tup j l)⟩
      · refine (pi_list he).run pins s σ H R I (go items (by simp [seqOf, hsq]) _ fun v J1 H1 g1 hd1 r1 hR => ?_)
        cases r1 with
        | lst j l => subst hsq; exact ⟨_, rfl, ⟨_, hd1.sqL j⟩, hR _ (itOk_list j l)⟩
  | exc c' p M1 =>
    unfold MM.bind at h'
    rw [q] at h'
    exact (pi_list he).run pins s σ H R I ⟨J, M, env, hd, sl, by rw [q]; exact h'⟩
  | bad =>
    unfold MM.bind at h'
    rw [q] at h'
    exact h'.elim
theorem i_rng1 {tg a : Expr} {c : C} {p pos : Pos} (ok : XOk S Y ER k W X) (hg : isGl S "range" = true) (ha : PE X a (rdE Y ER W X c)) (na : ∀ rest env, starEach (a :: rest) env = (false, eval a env) :: starEach rest env) :
    PI X tg (.Call (.Name "range" p) [a] [] pos) (rdI Y ER W X .range1 [c]) := by
  refine PI.imp (pi_range1 (gl_of ok hg) (ok.blt _ (by simp)) (a_cons ha a_nil (na _ _)) (na _ _)) fun σ H R h => ?_
  obtain ⟨J, M, e, hd, sl, h⟩ := h
  refine rdL_seq hd sl h fun ds M1 J1 H1 vs g1 hd1 sl1 r1 hn h1 => ?_
  obtain ⟨items, e', q⟩ := orBad_some h1 hd1
  match ds, e' with
  | [d], e' =>
    cases d <;> simp only [itO, reduceCtorEq] at e'
    split at e'
    · rename_i n hs
      cases e'
      simp only [smallI, Bool.and_eq_true, decide_eq_true_eq] at hs
      cases r1 with
      | cons r t =>
        cases r; cases t
        have := itOk_rng (X := X) (J0 := J1) 0 n
        rw [Int.sub_zero] at this
        exact ⟨n, rfl, hs.1, hs.2, q J1 H1 (.refl _ _) hd1 _ this⟩
    · cases e'
  | [], e' => simp [itO] at e'
  | _ :: _ :: _, e' => simp [itO] at e'
theorem i_rng2 {tg a b : Expr} {c c2 : C} {p pos : Pos} (ok : XOk S Y ER k W X) (hg : isGl S "range" = true) (ha : PE X a (rdE Y ER W X c)) (hb : PE X b (rdE Y ER W X c2)) (na : ∀ rest env, starEach (a :: rest) env = (false, eval a env) :: starEach rest env)
    (nb : ∀ rest env, starEach (b :: rest) env = (false, eval b env) :: starEach rest env) : PI X tg (.Call (.Name "range" p) [a, b] [] pos) (rdI Y ER W X .range2 [c, c2]) := by
  have ns : NoStar [a, b] := NoStar.cons na (NoStar.cons nb NoStar.nil)
  refine PI.imp (pi_range2 (gl_of ok hg) (ok.blt _ (by simp)) (a_cons ha (a_cons hb a_nil (nb _ _)) (na _ _)) (ns _) (ns.tail _)) fun σ H R h => ?_
  obtain ⟨J, M, e, hd, sl, h⟩ := h
  refine rdL_seq hd sl h fun ds M1 J1 H1 vs g1 hd1 sl1 r1 hn h1 => ?_
  obtain ⟨items, e', q⟩ := orBad_some h1 hd1
  match ds, e' with
  | [d, d2], e' =>
    cases d <;> cases d2 <;> simp only [itO, reduceCtorEq] at e'
    split at e'
    · rename_i n m hs
      cases e'
      simp only [smallI, Bool.and_eq_true, decide_eq_true_eq] at hs
      cases r1 with
      | cons r t =>
        cases r
        cases t with
        | cons r2 t2 =>
          cases r2; cases t2
          exact ⟨n, m, rfl, ⟨hs.1.1, hs.1.2, hs.2.1, hs.2.2⟩, q J1 H1 (.refl _ _) hd1 _ (itOk_rng n m)⟩
    · cases e'
  | [], e' => simp [itO] at e'
  | [_], e' => simp [itO] at e'
  | _ :: _ :: _ :: _, e' => simp [itO] at e'
theorem zipD_get : ∀ {ds es : List D} {i : Nat} {d : D}, (zipD ds es)[i]? = some d → ∃ a b, ds[i]? = some a ∧ es[i]? = some b ∧ d = .unp [a, b]
  | [], _, _, _, h => by simp [zipD] at h
  | _ :: _, [], _, _, h => by simp [zipD] at h
  | a :: ds, b :: es, 0, d, h => by simp [zipD] at h; exact ⟨a, b, rfl, rfl, h.symm⟩
  | a :: ds, b :: es, i + 1, d, h => by simpa using zipD_get (ds := ds) (es := es) (i := i) (by simpa [zipD] using h)
theorem zipD_len : ∀ (ds es : List D), (zipD ds es).length = min ds.length es.length
  | [], _ => by simp [zipD]
  | _ :: _, [] => by simp [zipD]
  | a :: ds, b :: es => by simp [zipD, zipD_len ds es]
theorem pair_new {J : Jt} {M : Mem} {H : Hp} {T : Addr} (hd : Hold X.K X.w J M H) (hT : H T = none) {x y : V} {a b : D} (ra : Rep X.K X.w J x a) (rb : Rep X.K X.w J y b) :
    ∃ J', Go J H J' (upd H T (.tup [x, y])) ∧ Hold X.K X.w J' M (upd H T (.tup [x, y])) ∧ Rep X.K X.w J' (.ref T) (.unp [a, b]) :=
  ⟨J.add T (.tup [x, y]), (go_new J _ hT).add hT (hd.fresh hT).1, (hd.new hT).add upd_same (hd.fresh hT).1 (hd.fresh hT).2, .unp Jt.add_same ((RepL.cons ra (.cons rb .nil)).ext (Jt.add_ext (hd.fresh hT).1))⟩
theorem itOk_zipL {J0 : Jt} {a b : Addr} {xs ys : List V} {ds es : List D} (j : JL J0 a xs) (r : RepL X.K X.w J0 xs ds) (j2 : JL J0 b ys) (r2 : RepL X.K X.w J0 ys es) : ItOk X (Itz X.K a b) J0 (zipD ds es) := by
  intro i J M H ex hd
  have hs : SqL X.K H a xs := hd.sqL (j.ext ex)
  have hs2 : SqL X.K H b ys := hd.sqL (j2.ext ex)
  refine ⟨fun h => ⟨xs, ys, hs, hs2, by rw [r.len, r2.len]; rw [zipD_len] at h; omega⟩, fun d hi => ?_⟩
  obtain ⟨x, y, h1, h2, rfl⟩ := zipD_get hi
  obtain ⟨v, v1, v2⟩ := r.get h1
  obtain ⟨u, u1, u2⟩ := r2.get h2
  refine ⟨⟨xs, ys, v, u, hs, hs2, v1, u1⟩, fun z H' yl => ?_⟩
  obtain ⟨T, x1, y1, rfl, hT, rfl, e1, e2⟩ := yl
  have := e1 xs hs
  rw [v1] at this; cases this
  have := e2 ys hs2
  rw [u1] at this; cases this
  exact pair_new hd hT (v2.ext ex) (u2.ext ex)
theorem itOk_zipT {J0 : Jt} {a b : Addr} {xs ys : List V} {ds es : List D} (j : JT X.K J0 a xs) (r : RepL X.K X.w J0 xs ds) (j2 : JT X.K J0 b ys) (r2 : RepL X.K X.w J0 ys es) : ItOk X (RZ.ItzT X.K a b) J0 (zipD ds es) := by
  intro i J M H ex hd
  have hs : SqT X.K H a xs := hd.sqT (j.ext ex)
  have hs2 : SqT X.K H b ys := hd.sqT (j2.ext ex)
  refine ⟨fun h => ⟨xs, ys, hs, hs2, by rw [r.len, r2.len]; rw [zipD_len] at h; omega⟩, fun d hi => ?_⟩
  obtain ⟨x, y, h1, h2, rfl⟩ := zipD_get hi
  obtain ⟨v, v1, v2⟩ := r.get h1
  obtain ⟨u, u1, u2⟩ := r2.get h2
  refine ⟨⟨xs, ys, v, u, hs, hs2, v1, u1⟩, fun z H' yl => ?_⟩
  obtain ⟨T, x1, y1, rfl, hT, rfl, e1, e2⟩ := yl
  have := e1 xs hs
  rw [v1] at this; cases this
  have := e2 ys hs2
  rw [u1] at this; cases this
  exact pair_new hd hT (v2.ext ex) (u2.ext ex)
theorem i_zip {elts : List Expr} {kk : Nat} {tpos : Pos} {a b : Expr} {c c2 : C} {p pos : Pos} (ok : XOk S Y ER k W X) (hg : isGl S "zip" = true) (ha : PE X a (rdE Y ER W X c)) (hb : PE X b (rdE Y ER W X c2)) (na : ∀ rest env, starEach (a :: rest) env = (false, eval a env) :: starEach rest env)
    (nb : ∀ rest env, starEach (b :: rest) env = (false, eval b env) :: starEach rest env) : PI X (.Tuple elts kk tpos) (.Call (.Name "zip" p) [a, b] [] pos) (rdI Y ER W X .zip [c, c2]) := by
  have ns : NoStar [a, b] := NoStar.cons na (NoStar.cons nb NoStar.nil)
  refine PI.imp (RZ.pi_zipA (gl_of ok hg) (ok.blt _ (by simp)) (a_cons ha (a_cons hb a_nil (nb _ _)) (na _ _)) (na _ _) (ns.tail.back _ _)) fun σ H R h => ?_
  obtain ⟨J, M, e, hd, sl, h⟩ := h
  refine rdL_seq hd sl h fun ds M1 J1 H1 vs g1 hd1 sl1 r1 hn h1 => ?_
  obtain ⟨items, e', q⟩ := orBad_some h1 hd1
  match ds, e' with
  | [d, d2], e' =>
    cases r1 with
    | cons r t =>
      cases t with
      | cons r2 t2 =>
        cases t2
        cases d <;> cases d2 <;> simp only [itO, reduceCtorEq, Option.some.injEq] at e'
        · subst e'
          cases r with
          | tup j l => cases r2 with
            | tup j2 l2 => exact ⟨_, _, _, _, rfl, .inr ⟨hd1.sqT j, hd1.sqT j2, q J1 H1 (.refl _ _) hd1 _ (itOk_zipT j l j2 l2)⟩⟩
        · subst e'
          cases r with
          | lst j l => cases r2 with
            | lst j2 l2 => exact ⟨_, _, _, _, rfl, .inl ⟨hd1.sqL j, hd1.sqL j2, q J1 H1 (.refl _ _) hd1 _ (itOk_zipL j l j2 l2)⟩⟩
  | [], e' => simp [itO] at e'
  | [_], e' => simp [itO] at e'
  | _ :: _ :: _ :: _, e' => simp [itO] at e'
theorem enumD_get : ∀ {ds : List D} {n i : Nat} {d : D}, (enumD n ds)[i]? = some d → ∃ a, ds[i]? = some a ∧ d = .unp [.int ((n + i : Nat) : Int), a]
  | [], _, _, _, h => by simp [enumD] at h
  | a :: ds, n, 0, d, h => by simp [enumD] at h; exact ⟨a, rfl, by rw [← h]; simp⟩
  | a :: ds, n, i + 1, d, h => by
    obtain ⟨x, h1, h2⟩ := enumD_get (ds := ds) (n := n + 1) (i := i) (by simpa [enumD] using h)
    exact ⟨x, by simpa using h1, by rw [h2]; congr 3; omega⟩
theorem enumD_len : ∀ (n : Nat) (ds : List D), (enumD n ds).length = ds.length
  | _, [] => rfl
  | n, a :: ds => by simp [enumD, enumD_len (n + 1) ds]
theorem itOk_enum {J0 : Jt} {a : Addr} {xs : List V} {ds : List D} (j : JL J0 a xs) (r : RepL X.K X.w J0 xs ds) : ItOk X (Ite X.K a) J0 (enumD 0 ds) := by
  intro i J M H ex hd
  have hs : SqL X.K H a xs := hd.sqL (j.ext ex)
  refine ⟨fun h => ⟨xs, hs, by rw [r.len]; rw [enumD_len] at h; exact h⟩, fun d hi => ?_⟩
  obtain ⟨x, h1, rfl⟩ := enumD_get hi
  obtain ⟨v, v1, v2⟩ := r.get h1
  refine ⟨⟨xs, v, hs, v1⟩, fun z H' yl => ?_⟩
  obtain ⟨T, x1, rfl, hT, rfl, e1⟩ := yl
  have := e1 xs hs
  rw [v1] at this; cases this
  rw [Nat.zero_add]
  exact pair_new hd hT (.int _) (v2.ext ex)
end
end MP
end

section
set_option linter.all false
set_option Elab.async false
set_option maxRecDepth 100000
set_option maxHeartbeats 4000000
namespace MP
open PySem PySem.Spec PyProof.Rows L2
open Sem (wp)
open AutoSeq1 (wpAny_loadPart')
/-! enumerate of a tuple -/
theorem enumT_new (tp : Addr) (xs : Array Value) (kk : Nat) (dc : Option Addr) (ss : Array (Option Value)) :
    Meets (Builtin.«enumerate.__new__» ⟨[.type "enumerate", .ref tp], []⟩) (fun _ R s => s.heap.get? tp = some { cls := .type "tuple", dict := dc, data := .seq xs kk, slots := ss } ∧
      R (.ok (.ret (.ref (s.heap.push { cls := .type "tuple_iterator", data := .fields #[.ref tp, .int 0 0] }).objs.size))) { s with
        heap := (s.heap.push { cls := .type "tuple_iterator", data := .fields #[.ref tp, .int 0 0] }).push { cls := .type "enumerate", data := .fields #[.none, .bool false, .ref s.heap.objs.size, rawInt 0, .none, .none] } }) :=
  .of_wp fun pg wd A R s hh => by
    obtain ⟨hp, gs, dd, tk, os⟩ := s; obtain ⟨hT, hh⟩ := hh
    have hs := sub_enumerate
    have hTT : Heap.IsTuple (Shared.heap ⟨hp, gs, dd, tk, os⟩) tp xs := ⟨_, hT, rfl, kk, rfl⟩
    wp_walk using wpAny_loadPart' hT
    refine wpAny_stack_any fun _ => wpAny_pure ?_
    split
    · rename_i cl _ _ _ _ _
      cases (cl == Value.type "enumerate")
      · wp_walk using wpAny_loadPart' hT, wpAny_pyIter_tuple hTT
        exact ⟨_, rfl, hh⟩
      · wp_walk using wpAny_loadPart' hT, wpAny_pyIter_tuple hTT
        exact ⟨_, rfl, hh⟩
    · wp_walk using wpAny_loadPart' hT, wpAny_pyIter_tuple hTT
      exact ⟨_, rfl, hh⟩
theorem enumT_call {pg : Program} {wd : World} {A : Around} {E : Value → Shared → Prop} {s : Shared} {tp : Addr} {xs : Array Value} {Q : Value → Shared → Prop} (hT : s.heap.IsTuple tp xs)
    (hh : ∀ h2, IsEnum h2 (s.heap.objs.size + 1) s.heap.objs.size 0 .none → h2.IsTupleIter s.heap.objs.size tp 0 → h2.objs.size = s.heap.objs.size + 2 → (∀ x ob, s.heap.get? x = some ob → h2.get? x = some ob) → Q (.ref (s.heap.objs.size + 1)) { s with heap := h2 }) :
    wpAny (model pg wd) A (call (.type "enumerate") [.ref tp]) Q E s := by
  obtain ⟨⟨cl, dc, da, ss⟩, hg, hcl, kk, hda⟩ := hT
  replace hcl : cl = .type "tuple" := hcl
  replace hda : da = .seq xs kk := hda
  subst hcl hda
  refine callType_new F.called_enumerate (by decide) (F.typeCall_enumerate_1 _) (F.newCall_enumerate_1 _) (fun ob => F.args_object_init_2 ob _) F.entry_enumerate_new (enumT_new tp xs kk dc ss) ⟨hg, ?_⟩
  have sz : (s.heap.push { cls := .type "tuple_iterator", data := .fields #[.ref tp, .int 0 0] }).objs.size = s.heap.objs.size + 1 := Heap.size_push ..
  show _ ∧ _
  rw [sz]
  have isE : IsEnum ((s.heap.push { cls := .type "tuple_iterator", data := .fields #[.ref tp, .int 0 0] }).push { cls := .type "enumerate", data := .fields #[.none, .bool false, .ref s.heap.objs.size, rawInt 0, .none, .none] }) (s.heap.objs.size + 1) s.heap.objs.size 0 .none := by
    have z := Heap.get?_push_size (s.heap.push { cls := .type "tuple_iterator", data := .fields #[.ref tp, .int 0 0] }) (o := { cls := .type "enumerate", data := .fields #[.none, .bool false, .ref s.heap.objs.size, rawInt 0, .none, .none] }) rfl
    rw [sz] at z; exact z
  refine ⟨⟨_, isE, rfl⟩, hh _ isE ⟨_, Heap.get?_push_of_some _ (Heap.get?_push_size _ rfl), rfl, rfl⟩ (by rw [Heap.size_push, sz]) fun x ob z => Heap.get?_push_of_some _ (Heap.get?_push_of_some _ z)⟩
/-- the tuple at a, each item in a new pair -/
def IteT (K : PySem.W.Frag) (a : Addr) : It :=
  ⟨fun i H => ∃ (ys : List V) (y : V), SqT K H a ys ∧ ys[i]? = some y, fun i H v H' => ∃ T y, v = .ref T ∧ H T = none ∧ H' = upd H T (.tup [.int (i : Nat), y]) ∧ ∀ ys, SqT K H a ys → ys[i]? = some y, fun i H => ∃ ys : List V, SqT K H a ys ∧ ys.length ≤ i⟩
theorem turn_enumT {pg : Program} {wd : World} {K : PySem.W.Frag} {els : List Expr} {kk : Nat} {tpos : Pos} (a e it : Addr) :
    Turn pg wd K (.Tuple els kk tpos) (IteT K a) [e, it] e (fun i h => (∃ was, IsEnum h e it ((i : Nat) : Int) was) ∧ h.IsTupleIter it a i ∧ e ≠ it ∧ a ≠ it ∧ a ≠ e) where
  mem := by simp
  obj := fun i h st x hx => by
    obtain ⟨⟨was, he⟩, ⟨ob, ho, hcl, hda⟩, _⟩ := st
    have hx' : x = e ∨ x = it := by simpa using hx
    rcases hx' with z | z
    · rw [z]; exact ⟨_, he, fun v q => nomatch q⟩
    · rw [z]; exact ⟨ob, ho, fun v q => by rw [hda] at q; cases q⟩
  keep := fun i h h2 st kp => let ⟨⟨was, he⟩, hi, hne⟩ := st; ⟨⟨was, kp e (by simp) _ he⟩, hi.at fun ob q => kp it (by simp) ob q, hne⟩
  item := by
    intro X e1 e2 e3 hc i pins s σ H E I hf st hg
    subst e1 e2 e3
    obtain ⟨⟨was, he⟩, hit, hne, hna, hnb⟩ := st
    obtain ⟨ys, y, hq, hy⟩ := hg
    obtain ⟨its, rv, p, hz⟩ := I.tuple hq
    obtain ⟨u, hu, ru⟩ := rv.get hy
    have el : e < s.heap.objs.size := Heap.lt_size he
    have il : it < s.heap.objs.size := by obtain ⟨_, q, _⟩ := hit; exact Heap.lt_size q
    have hlt : i < its.toArray.size := by
      have := (List.getElem?_eq_some_iff.mp hu).1
      simpa using this
    refine wpAny_pyNext_enum_itemD (Draws.tuple (A := X.A.in1) (show X.A.in1.handled = none from I.ok.hd hc) it a hna its.toArray) he ⟨hit, p⟩ hlt hne (by simp [hne, hnb.symm]) fun x h2 tk hx ho hst hT hsz hk => ?_
    have hxu : x = u := by
      have : its.toArray[i]? = some u := by simpa using hu
      rw [this] at hx; cases hx; rfl
    subst hxu
    refine ⟨_, rfl, wpAny_letOwnedTupleGo_enum (s := { s with heap := h2, toks := tk + 1 }) ho fun h3 he3 sb => ?_⟩
    have hT3 : h3.get? s.heap.objs.size = some { cls := .type "tuple", data := .seq #[.int i tk, x] } := (sb.2 _ (Nat.ne_of_gt el)).trans hT
    have fresh : ObjOk X.prog X.w (upd H s.heap.objs.size (.tup [.int (i : Nat), y])) h3 s.heap.objs.size (.tup [.int (i : Nat), y]) := ⟨by show 2 ≤ sizeLine; decide, [.int i tk, x], .cons ⟨_, rfl⟩ (.cons ru .nil), ⟨_, hT3, rfl, _, rfl⟩⟩
    have I1 : Inv X pins σ (upd H s.heap.objs.size (.tup [.int (i : Nat), y])) { s with heap := h3, toks := tk + 1 } :=
      I.turnedNew (ch := [e, it]) (fun x ob hx q => (sb.2 x (fun z => hx (by simp [z]))).trans (hk x ob (fun z => hx (by simp [z])) (fun z => hx (by simp [z])) q)) hf (Nat.le_refl _) fresh
    refine ⟨.ref s.heap.objs.size, _, I1, rfl, ⟨_, y, rfl, I.hok.fresh (Nat.le_refl _), rfl, fun zs hz => by rw [I.tuple_inj hz hq]; exact hy⟩, ⟨⟨x, ?_⟩, hst.1.at fun ob q => (sb.2 it (Ne.symm hne)).trans q, hne, hna, hnb⟩, fun x hx => ?_⟩
    · rw [show ((i + 1 : Nat) : Int) = (i : Int) + 1 by omega]; exact he3
    · have hlt : x < s.heap.objs.size := by
        have hx' : x = e ∨ x = it := by simpa using hx
        rcases hx' with z | z
        · rw [z]; exact el
        · rw [z]; exact il
      rw [upd_ne (Nat.ne_of_lt hlt)]
      exact (hf x hx).1
  done := by
    intro X e1 e2 e3 hc i pins s σ H E I hf st hg
    subst e1 e2 e3
    obtain ⟨⟨was, he⟩, hit, hne, hna, hnb⟩ := st
    obtain ⟨ys, hq, hy⟩ := hg
    obtain ⟨its, rv, p, hz⟩ := I.tuple hq
    obtain ⟨f0, f1, f2, f3, f4, f5⟩ := hf it (by simp)
    have hl := rv.length
    have hend : its.toArray[i]? = none := by simp; omega
    have hd := I.ok.hd hc
    unfold pyNext
    refine wpAny_bind (wpAny_attempt (wpAny_callSpecial?_slot (name := Str.ofString "__next__") (T := "enumerate") ⟨_, he, rfl⟩ F.slot_enumerate_next (wpAny_call_entry F.slot_enumerate_next ⟨_, he, rfl⟩ F.entry_enumerate_next ?_ (F.args_enumerate_next_1 _))))
    show wpAny _ _ (field (.ref e) 2 >>= _) _ _ _
    refine wpAny_bind (wpAny_field he rfl (x := .ref it) rfl ?_)
    refine wpAny_bind (wpAny_nextOf_tuple_end hd hit p hend fun h2 x eb hx => ?_)
    obtain ⟨ob, ho, hcl⟩ := hx
    refine wpAny_bind (wpAny_isInstance (T := "StopIteration") (b := true) ⟨ob, ho, hcl⟩ isSubtype_stop ?_)
    exact wpAny_pure ⟨rfl, I.turned (t' := s.toks) (fun x ob hx q => eb x ob hx q) f0 f1 f3 f4 f5⟩
  self := fun A i s Q E st h => let ⟨⟨_, he⟩, _⟩ := st; wpAny_pyIter_enum he h
def iEnumA (K : PySem.W.Frag) (ta : TA) : TI := fun σ H R => ta σ H fun vs H1 => ∃ a xs, vs = [.ref a] ∧ ((SqL K H1 a xs ∧ R (Ite K a) H1) ∨ (SqT K H1 a xs ∧ R (IteT K a) H1))
theorem pi_enumA {X : Cx} {e : Expr} {ta : TA} {p pos tpos : Pos} {elts : List Expr} {kk : Nat} (hg : Gl X "enumerate") (hm : X.mg "enumerate" = none) (ha : PA X [e] ta) (hs : starEach [e] X.env = [(false, eval e X.env)]) :
    PI X (.Tuple elts kk tpos) (.Call (.Name "enumerate" p) [e] [] pos) (iEnumA X.K ta) := by
  refine ⟨fun pins s σ H R I h => ?_⟩
  refine Call_ (ld_blt I hg hm boot_enumerate (PyProof.Rows.callWith_type1 (thn (ha.run pos pins s σ H _ I h) fun us s1 ⟨vs, H1, I1, r1, q1⟩ => ?_) hs rfl))
  obtain ⟨a, xs, ex, q1⟩ := q1
  subst ex
  cases r1 with
  | cons r rr =>
    cases rr
    cases r
    have fresh2 : ∀ x, x ∈ [s1.heap.objs.size + 1, s1.heap.objs.size] → FpOk X pins H1 x := fun x hx => by
      have hx' : x = s1.heap.objs.size + 1 ∨ x = s1.heap.objs.size := by simpa using hx
      have hle : s1.heap.objs.size ≤ x := by
        rcases hx' with z | z
        · rw [z]; exact Nat.le_add_right _ _
        · rw [z]; exact Nat.le_refl _
      exact I1.fpOk hle (I1.hok.fresh hle)
    rcases q1 with ⟨hq, q⟩ | ⟨hq, q⟩
    · obtain ⟨its, rv, p', hz⟩ := I1.list hq
      refine call_enumerate_list p'.isList fun h2 he hit hsz hk => wpAny_pyIter_enum he ?_
      exact ⟨s1.heap.objs.size + 1, [s1.heap.objs.size + 1, s1.heap.objs.size], _, _, H1, rfl, I1.kept (t' := s1.toks) hk, turn_enum a (s1.heap.objs.size + 1) s1.heap.objs.size, ⟨⟨.none, he⟩, hit, Nat.succ_ne_self _⟩, fresh2, q⟩
    · obtain ⟨its, rv, p', hz⟩ := I1.tuple hq
      have hal : a < s1.heap.objs.size := by obtain ⟨ob, ho, _⟩ := id p'; exact Heap.lt_size ho
      refine enumT_call (show s1.heap.IsTuple a its.toArray from p') fun h2 he hit hsz hk => wpAny_pyIter_enum he ?_
      exact ⟨s1.heap.objs.size + 1, [s1.heap.objs.size + 1, s1.heap.objs.size], _, _, H1, rfl, I1.kept (t' := s1.toks) hk, turn_enumT a (s1.heap.objs.size + 1) s1.heap.objs.size, ⟨⟨.none, he⟩, hit, Nat.succ_ne_self _, Nat.ne_of_lt hal, Nat.ne_of_lt (Nat.lt_succ_of_lt hal)⟩, fresh2, q⟩
section
variable {S : Cs} {Y : Ctx} {ER : ExR} {k : Nat} {W : WX} {X : Cx}
theorem itOk_enumT {J0 : Jt} {a : Addr} {xs : List V} {ds : List D} (j : JT X.K J0 a xs) (r : RepL X.K X.w J0 xs ds) : ItOk X (IteT X.K a) J0 (enumD 0 ds) := by
  intro i J M H ex hd
  have hs : SqT X.K H a xs := hd.sqT (j.ext ex)
  refine ⟨fun h => ⟨xs, hs, by rw [r.len]; rw [enumD_len] at h; exact h⟩, fun d hi => ?_⟩
  obtain ⟨x, h1, rfl⟩ := enumD_get hi
  obtain ⟨v, v1, v2⟩ := r.get h1
  refine ⟨⟨xs, v, hs, v1⟩, fun z H' yl => ?_⟩
  obtain ⟨T, x1, rfl, hT, rfl, e1⟩ := yl
  have := e1 xs hs
  rw [v1] at this; cases this
  rw [Nat.zero_add]
  exact pair_new hd hT (.int _) (v2.ext ex)
end
end MP
end

section
set_option linter.all false
set_option Elab.async false
set_option maxRecDepth 100000
set_option maxHeartbeats 4000000
namespace MP
open PySem PySem.Spec PyProof.Rows L2
section
variable {S : Cs} {Y : Ctx} {ER : ExR} {k : Nat} {W : WX} {X : Cx}
theorem lookup_relabel {sc : Scope} {env : PySem.Env} : ∀ {names : List (Str × NameKind)} {x : Str} {kd : NameKind}, names.lookup x = some kd →
    (names.map fun (n, k) => if (k == NameKind.free && env.scope.kind == .function && env.kindOf n == some .cell) then (n, NameKind.cell) else (n, k)).lookup x = some kd ∨
      (kd = .free ∧ (names.map fun (n, k) => if (k == NameKind.free && env.scope.kind == .function && env.kindOf n == some .cell) then (n, NameKind.cell) else (n, k)).lookup x = some .cell)
  | [], _, _, h => by simp at h
  | (n, kk) :: r, x, kd, h => by
    rw [List.map_cons]
    by_cases e : x = n
    · subst e
      have hk : kk = kd := by simpa [List.lookup] using h
      subst hk
      by_cases c : (kk == NameKind.free && env.scope.kind == .function && env.kindOf x == some .cell) = true
      · refine .inr ⟨?_, ?_⟩
        · simp only [Bool.and_eq_true, beq_iff_eq] at c
          exact c.1.1
        · show List.lookup x ((if _ then (x, NameKind.cell) else (x, kk)) :: _) = _
          rw [if_pos c]; simp [List.lookup]
      · refine .inl ?_
        show List.lookup x ((if _ then (x, NameKind.cell) else (x, kk)) :: _) = _
        rw [if_neg c]; simp [List.lookup]
    · have e' : (x == n) = false := by simpa using e
      have h' : r.lookup x = some kd := by simpa [List.lookup, e'] using h
      have := lookup_relabel (sc := sc) (env := env) h'
      have step : ∀ (l : List (Str × NameKind)) (b : Bool), List.lookup x ((if b then (n, NameKind.cell) else (n, kk)) :: l) = List.lookup x l := by
        intro l b
        cases b <;> simp [List.lookup, e']
      rcases this with h1 | ⟨h0, h1⟩
      · exact .inl ((step _ _).trans h1)
      · exact .inr ⟨h0, (step _ _).trans h1⟩
theorem XOk.blk {sc : Scope} (ok : XOk S Y ER k W X) (s : Shared) (H : Hp) (C : Addr) (cl : List (Str × Addr)) (fp : List Addr) :
    XOk { S with sc := sc } Y ER k (fun _ _ _ _ => False) (X.blk s H sc (compEnvC sc cl C X.env) fp) where
  N := ok.N
  nd := ok.nd
  nodb := ok.nodb
  sc := fun x kd h => lookup_relabel (sc := sc) h
  fn := fun x h => by
    show (sc.names.lookup x == some .cell) = true
    have : sc.names.lookup x = some .cell := h
    rw [this]; rfl
  calm := ok.calm
  room := ok.room
  slack := ok.slack
  guards := ok.guards
  tk := fun u s' x => by
    obtain ⟨_, _, _, _, _, _, _, _, _, _, _, _, _, _, _, _, f⟩ := x
    exact f.elim
  own := PassesOwn.never
  G := { ok.G with }
theorem blk_ok {sc : Scope} {own : List (Str × Nat)} (ok : XOk S Y ER k W X) (h : blkC S.N S.sc sc own = true) : BlkOk X.N X.env.scope sc own := by
  have b := blkOk_by h
  rw [ok.N]
  refine ⟨b.kind, b.uniq, b.ix, fun y hy e => ?_, b.own⟩
  rcases b.free y hy e with h | h
  · rcases ok.sc _ _ h with h | ⟨e, _⟩
    · exact .inl h
    · cases e
  · rcases ok.sc _ _ h with h | ⟨_, h⟩
    · exact .inr h
    · exact .inl h
theorem wipeE_len (e : MP.Env) : ∀ vs : List Nat, (wipeE e vs).length = e.length
  | [] => rfl
  | v :: vs => by unfold wipeE; rw [List.length_set, wipeE_len e vs]
theorem wipeE_some {e : MP.Env} {i : Nat} {x : D × Bool} : ∀ {vs : List Nat}, (wipeE e vs)[i]? = some (some x) → e[i]? = some (some x) ∧ i ∉ vs
  | [], h => ⟨h, by simp⟩
  | v :: vs, h => by
    unfold wipeE at h
    by_cases hi : v = i
    · subst hi
      by_cases hv : v < (wipeE e vs).length
      · rw [List.getElem?_set_self hv] at h; cases h
      · rw [List.getElem?_eq_none (by simpa using hv)] at h; cases h
    · rw [List.getElem?_set_ne hi] at h
      obtain ⟨h1, h2⟩ := wipeE_some h
      exact ⟨h1, by simp [h2, Ne.symm hi]⟩
theorem wipe_keep {σ : L2.St} {i : Nat} {x : V} : ∀ {vs : List Nat}, σ[i]? = some (some x) → i ∉ vs → (wipe σ vs)[i]? = some (some x)
  | [], h, _ => h
  | v :: vs, h, hn => by
    unfold wipe
    rw [List.getElem?_set_ne (fun z => hn (by simp [z]))]
    exact wipe_keep h fun z => hn (by simp [z])
theorem Slots.wipe {K : PySem.W.Frag} {w : World} {J : Jt} {H : Hp} {σ : L2.St} {e : MP.Env} (h : Slots K w J H σ e) (vs : List Nat) : Slots K w J H (L2.wipe σ vs) (wipeE e vs) := by
  refine ⟨by rw [wipe_length, wipeE_len, h.len], fun i d hi => ?_, fun i d hi => ?_, fun i j d d' a h1 h2 h3 h4 => ?_⟩
  · obtain ⟨h1, h2⟩ := wipeE_some hi
    obtain ⟨v, h3, h4⟩ := h.sh i d h1
    exact ⟨v, wipe_keep h3 h2, h4⟩
  · obtain ⟨h1, h2⟩ := wipeE_some hi
    obtain ⟨v, h3, h4⟩ := h.own i d h1
    exact ⟨v, wipe_keep h3 h2, h4⟩
  · exact h.apart i j d d' a (wipeE_some h1).1 (wipeE_some h2).1 (wipe_some h3).1 (wipe_some h4).1
theorem loopL_cons {α : Type} (step : D → α → MM α) (d : D) (r : List D) (a : α) : loopL step (d :: r) a = MM.bind (step d a) fun a' => loopL step r a' := rfl
theorem ResG.bind {α β : Type} {σ : L2.St} {J : Jt} {H : Hp} {M : Mem} {x : MM α} {f : α → MM β} {post : β → Mem → Jt → Hp → Prop} (h : ResG X ER W σ J H (MM.bind x f M) post) : ResG X ER W σ J H (x M) fun a M1 J1 H1 => ResG X ER W σ J1 H1 (f a M1) post := by
  unfold MM.bind at h
  cases q : x M with
  | ok a M1 => rw [q] at h; exact fun J1 H1 g _ => ResG.shift h g
  | exc c p M1 => rw [q] at h; exact h
  | bad => rw [q] at h; exact h
/-- what a comprehension's test list reads as -/
def rdTs (Y : Ctx) (ER : ExR) (W : WX) (X : Cx) (cs : List C) : TT := fun σ H Q => ∃ J M e, Hold X.K X.w J M H ∧ Slots X.K X.w J H σ e ∧ ResG X ER W σ J H (denT Y cs e M) fun b _ J' H' => Q b H'
theorem lc_read {cel : C} {tn : Tn} {kk : ItK} {cs ccond : List C} {vs : List Nat} (hix : tn.ixs.all vs.contains = true) :
    ∀ σ H Q, rdE Y ER W X (.lc cel tn kk cs ccond vs) σ H Q → tLc (rdI Y ER W X kk cs) (gD X tn) (rdTs Y ER (fun _ _ _ _ => False) X ccond) (rdE Y ER (fun _ _ _ _ => False) X cel) vs σ H Q := by
  intro σ H Q h
  obtain ⟨J, M, e, hd, sl, h⟩ := h
  let step : D → List D → MM (List D) := fun d acc => match bindT false tn d (wipeE e vs) with
    | none => bad
    | some e' => MM.bind (denT Y ccond e') fun b => if b then MM.bind (den Y cel e') fun y => if acc.length < szLine then MM.pure (acc ++ [y.1]) else bad else MM.pure acc
  have h' : ResG X ER W σ J H (MM.bind (MM.bind (denL Y cs e) fun ds => orBad (itO kk ds)) (fun items => MM.bind (noExc (loopL step items [])) fun acc => MM.pure (.lst acc, true)) M) (fun x _ J' H' => ∀ v, RepO X.K X.w J' H H' v x.1 x.2 → Q v H') := by
    have e1 : den Y (.lc cel tn kk cs ccond vs) e = MM.bind (denL Y cs e) fun ds => match itO kk ds with
      | none => bad
      | some items => MM.bind (noExc (loopL step items [])) fun acc => MM.pure (.lst acc, true) := rfl
    rw [e1] at h
    have e2 : ∀ M, MM.bind (denL Y cs e) (fun ds => match itO kk ds with
      | none => bad
      | some items => MM.bind (noExc (loopL step items [])) fun acc => MM.pure (.lst acc, true)) M = MM.bind (MM.bind (denL Y cs e) fun ds => orBad (itO kk ds)) (fun items => MM.bind (noExc (loopL step items [])) fun acc => MM.pure (D.lst acc, true)) M := by
      intro M
      unfold MM.bind
      cases denL Y cs e M with
      | ok ds M1 => dsimp only; cases itO kk ds <;> rfl
      | exc _ _ _ => rfl
      | bad => rfl
    rw [e2] at h; exact h
  -- the source
  refine ⟨J, M, e, hd, sl, ?_⟩
  refine (ResG.bind h').imp fun items M1 J1 H1 g1 hd1 h3 it hit => ?_
  intro DD hDD
  obtain ⟨gA, hdA, p0, ep0, _, ownA⟩ := new_own (d := .lst []) hd1 hDD (.lst .nil)
  cases ep0
  obtain ⟨accF, MF, hL, hF⟩ : ∃ accF MF, loopL step items [] M1 = .ok accF MF ∧ ∀ J' H', Go J1 H1 J' H' → Hold X.K X.w J' MF H' → Own X.K X.w J' H' DD (.lst accF) → Q (.ref DD) H' := by
    cases q : noExc (loopL step items []) M1 with
    | ok acc M2 =>
      unfold MM.bind at h3
      rw [q] at h3
      refine ⟨acc, M2, noExc_ok q, fun J' H' g hd2 own2 => h3 J' H' g hd2 _ ⟨DD, rfl, none_of_not fun z => ?_, own2⟩⟩
      have := g1.keepR DD z
      rw [hDD] at this; cases this
    | exc c p M2 =>
      unfold noExc at q
      cases q2 : loopL step items [] M1 <;> rw [q2] at q <;> cases q
    | bad =>
      unfold MM.bind at h3
      rw [q] at h3; exact h3.elim
  refine ⟨fun i m H' => ∃ J' M' acc, m = items.length - i ∧ Go J1 H1 J' H' ∧ Hold X.K X.w J' M' H' ∧ Own X.K X.w J' H' DD (.lst acc) ∧ loopL step (items.drop i) acc M' = .ok accF MF,
    ⟨items.length, J1, M1, [], by simp, gA, hdA, ownA, by rw [List.drop_zero]; exact hL⟩, ?_⟩
  rintro i m H2 ⟨J2, M2, acc, rfl, g2, hd2, own2, h5⟩
  have ex2 : Ext J1 J2 := g2.ext
  obtain ⟨hstop, hgo⟩ := hit i J2 M2 H2 ex2 hd2
  have sl2 : Slots X.K X.w J2 H2 σ e := (sl.go g1).go g2
  by_cases hlt : items.length ≤ i
  · refine .inl ⟨hstop hlt, ?_⟩
    rw [List.drop_of_length_le hlt] at h5
    have h5' : (.ok acc M2 : R (List D)) = .ok accF MF := h5
    cases h5'
    exact hF J2 H2 g2 hd2 own2
  · have hlt' : i < items.length := by omega
    have hget : items[i]? = some items[i] := List.getElem?_eq_getElem hlt'
    obtain ⟨hgo1, hyld⟩ := hgo _ hget
    refine .inr ⟨hgo1, fun H' => ∃ J' M' acc, Go J1 H1 J' H' ∧ Hold X.K X.w J' M' H' ∧ Own X.K X.w J' H' DD (.lst acc) ∧ loopL step (items.drop (i + 1)) acc M' = .ok accF MF,
      fun H' ⟨J', M', acc, a1, a2, a3, a4⟩ => ⟨items.length - (i + 1), by omega, J', M', acc, rfl, a1, a2, a3, a4⟩, fun x H3 hy => ?_⟩
    obtain ⟨J3, g3, hd3, rx⟩ := hyld x H3 hy
    rw [List.drop_eq_getElem_cons hlt', loopL_cons] at h5
    obtain ⟨acc1, M6, h6, h7⟩ := bind_ok h5
    have own3 := own2.go g3
    have sl3 := (sl2.go g3).wipe vs
    cases qb : bindT false tn items[i] (wipeE e vs) with
    | none =>
      have : step items[i] acc = bad := by show (match bindT false tn items[i] (wipeE e vs) with | none => bad | some e' => _) = _; rw [qb]
      rw [this] at h6
      cases h6
    | some e' =>
      have es : step items[i] acc = MM.bind (denT Y ccond e') fun b => if b then MM.bind (den Y cel e') fun y => if acc.length < szLine then MM.pure (acc ++ [y.1]) else bad else MM.pure acc := by
        show (match bindT false tn items[i] (wipeE e vs) with | none => bad | some e' => _) = _; rw [qb]
      rw [es] at h6
      obtain ⟨b, M3, qt, h8⟩ := bind_ok h6
      refine ⟨J3, M2, items[i], wipeE e vs, e', hd3, sl3, rx, qb, fun σ2 slb only => ⟨?_, ?_⟩⟩
      · have := only vs fun i hi => by
          have := List.all_eq_true.mp hix i hi
          simpa using this
        rw [this]
        have idem : ∀ (ws us : List Nat), (∀ i ∈ us, i ∈ ws) → L2.wipe (L2.wipe σ ws) us = L2.wipe σ ws := by
          intro ws us
          induction us with
          | nil => intro _; rfl
          | cons u us ih =>
            intro hu
            show (L2.wipe (L2.wipe σ ws) us).set u none = _
            rw [ih fun i hi => hu i (by simp [hi])]
            have : ∀ (ws : List Nat), u ∈ ws → (L2.wipe σ ws).set u none = L2.wipe σ ws := by
              intro ws
              induction ws with
              | nil => intro h; cases h
              | cons z zs ih2 =>
                intro h
                unfold L2.wipe
                by_cases hz : z = u
                · subst hz; rw [List.set_set]
                · rw [List.set_comm _ _ hz, ih2 (by rcases List.mem_cons.mp h with h | h; exact absurd h.symm hz; exact h)]
            exact this ws (hu u (by simp))
        exact idem vs vs fun _ h => h
      · refine ⟨J3, M2, e', hd3, slb, ?_⟩
        rw [qt]
        intro J4 H4 g4 hd4
        have own4 := own3.go g4
        have gAll4 : Go J1 H1 J4 H4 := (g2.trans g3).trans g4
        cases b with
        | false =>
          rw [if_neg Bool.false_ne_true] at h8
          cases h8
          show (if false = true then _ else _)
          rw [if_neg Bool.false_ne_true]
          exact ⟨J4, _, acc, gAll4, hd4, own4, h7⟩
        | true =>
          rw [if_pos rfl] at h8
          show (if true = true then _ else _)
          rw [if_pos rfl]
          have slb4 := slb.go g4
          obtain ⟨y, M4, qe, h9⟩ := bind_ok h8
          refine ⟨J4, M3, e', hd4, slb4, ?_⟩
          rw [qe]
          intro J5 H5 g5 hd5 v ry
          obtain ⟨J6, g6, hd6, r6⟩ := ry.share g5 hd5
          have own5 : Own X.K X.w J6 H5 DD (.lst acc) := own4.go g6
          obtain ⟨o, ho, hI, hr, orr⟩ := id own5
          cases orr with
          | lst rl =>
            rename_i xs
            by_cases hsz : acc.length < szLine
            · rw [if_pos hsz] at h9
              cases h9
              refine ⟨xs, ho, by rw [rl.len, ← szLine_eq]; exact hsz, ?_⟩
              obtain ⟨hd7, own7⟩ := Own.put (d' := .lst (acc ++ [y.1])) (o := .lst (xs ++ [v])) hd6 own5 (.lst (rl.app (.one r6)))
              exact ⟨J6, _, acc ++ [y.1], (gAll4.trans g6).put hDD, hd7, own7, h7⟩
            · rw [if_neg hsz] at h9
              cases h9
/-- a comprehension of one clause -/
theorem e_lc {el tg it : Expr} {cond : List Expr} {sc : Scope} {pos : Pos} {cel : C} {tn : Tn} {kk : ItK} {cs ccond : List C} (ok : XOk S Y ER k W X) (hi : PI X tg it (rdI Y ER W X kk cs)) (hblk : blkC S.N S.sc sc (ownOf S.N sc) = true)
    (hix : tn.ixs.all ((ownOf S.N sc).map (·.2)).contains = true) 
    (hg : ∀ {X' : Cx} {W' : WX}, XOk { S with sc := sc } Y ER k W' X' → PG X' tg (gD X' tn)) (he : ∀ {X' : Cx} {W' : WX}, XOk { S with sc := sc } Y ER k W' X' → PE X' el (rdE Y ER W' X' cel))
    (ht : ∀ {X' : Cx} {W' : WX}, XOk { S with sc := sc } Y ER k W' X' → PTs X' cond (rdTs Y ER W' X' ccond))
    (hfs : ∀ env x, foldedSetIterable it env x = pure x) :
    PE X (.ListComp el [⟨tg, it, cond, 0⟩] sc pos) (rdE Y ER W X (.lc cel tn kk cs ccond ((ownOf S.N sc).map (·.2)))) := by
  have hN : X.N.Nodup := by rw [ok.N]; exact ok.nd
  have hg' : ∀ (s : Shared) (H : Hp) (C : Addr) (cl : List (Str × Addr)) (fp : List Addr), PG (X.blk s H sc (compEnvC sc cl C X.env) fp) tg (gD X tn) := fun s H C cl fp => hg (ok.blk s H C cl fp)
  have he' : ∀ (s : Shared) (H : Hp) (C : Addr) (cl : List (Str × Addr)) (fp : List Addr), PE (X.blk s H sc (compEnvC sc cl C X.env) fp) el (rdE Y ER (fun _ _ _ _ => False) X cel) := fun s H C cl fp => he (ok.blk s H C cl fp)
  have ht' : ∀ (s : Shared) (H : Hp) (C : Addr) (cl : List (Str × Addr)) (fp : List Addr), PTs (X.blk s H sc (compEnvC sc cl C X.env) fp) cond (rdTs Y ER (fun _ _ _ _ => False) X ccond) := fun s H C cl fp => ht (ok.blk s H C cl fp)
  exact PE.imp (pe_lc (own := ownOf S.N sc) ok.calm hN hi (blk_ok ok hblk) hg' ht' he' (hfs _)) (lc_read hix)
theorem wipe_idem {σ : L2.St} (ws : List Nat) : ∀ us : List Nat, (∀ i ∈ us, i ∈ ws) → L2.wipe (L2.wipe σ ws) us = L2.wipe σ ws
  | [], _ => rfl
  | u :: us, hu => by
    show (L2.wipe (L2.wipe σ ws) us).set u none = _
    rw [wipe_idem ws us fun i hi => hu i (by simp [hi])]
    have : ∀ (ws : List Nat), u ∈ ws → (L2.wipe σ ws).set u none = L2.wipe σ ws := by
      intro ws
      induction ws with
      | nil => intro h; cases h
      | cons z zs ih2 =>
        intro h
        unfold L2.wipe
        by_cases hz : z = u
        · subst hz; rw [List.set_set]
        · rw [List.set_comm _ _ hz, ih2 (by rcases List.mem_cons.mp h with h | h; exact absurd h.symm hz; exact h)]
    exact this ws (hu u (by simp))
mutual
theorem bindT_new : ∀ (t : Tn) {d : D} {e e' : MP.Env}, bindT false t d e = some e' → ∀ (i : Nat) (d' : D), e'[i]? = some (some (d', true)) → e[i]? = some (some (d', true)) ∧ i ∉ t.ixs
  | .name j, d, e, e', h, i, d', h2 => by
    simp only [bindT, Option.some.injEq] at h
    subst h
    by_cases hij : j = i
    · subst hij
      by_cases hl : j < e.length
      · rw [List.getElem?_set_self hl] at h2; cases h2
      · rw [List.getElem?_eq_none (by simpa using hl)] at h2; cases h2
    · rw [List.getElem?_set_ne hij] at h2
      exact ⟨h2, by simp [Tn.ixs]; exact fun z => hij z.symm⟩
  | .tup l, d, e, e', h, i, d', h2 => by
    cases d <;> simp only [bindT, reduceCtorEq] at h
    · exact bindTs_new l h i d' h2
    · exact bindTs_new l h i d' h2
    · exact bindTs_new l h i d' h2
theorem bindTs_new : ∀ (ts : List Tn) {ds : List D} {e e' : MP.Env}, bindTs ts ds e = some e' → ∀ (i : Nat) (d' : D), e'[i]? = some (some (d', true)) → e[i]? = some (some (d', true)) ∧ i ∉ Tn.ixss ts
  | [], ds, e, e', h, i, d', h2 => by
    cases ds with
    | nil => simp only [bindTs, Option.some.injEq] at h; subst h; exact ⟨h2, by simp [Tn.ixss]⟩
    | cons _ _ => simp [bindTs] at h
  | t :: ts, ds, e, e', h, i, d', h2 => by
    cases ds with
    | nil => simp [bindTs] at h
    | cons d ds =>
      simp only [bindTs] at h
      obtain ⟨e1, h1, h3⟩ := Option.bind_eq_some_iff.mp h
      obtain ⟨q1, q2⟩ := bindTs_new ts h3 i d' h2
      obtain ⟨q3, q4⟩ := bindT_new t h1 i d' q1
      exact ⟨q3, by simp [Tn.ixss, q2, q4]⟩
end
theorem wipe_get {σ : L2.St} {i : Nat} : ∀ {vs : List Nat}, i ∉ vs → (L2.wipe σ vs)[i]? = σ[i]?
  | [], _ => rfl
  | v :: vs, h => by
    unfold L2.wipe
    rw [List.getElem?_set_ne (fun z => h (by simp [z]))]
    exact wipe_get fun z => h (by simp [z])
theorem slots_upd {K : PySem.W.Frag} {w : World} {J : Jt} {H : Hp} {σ : L2.St} {e : MP.Env} {D : Addr} {o : HO} (h : Slots K w J H σ e) (hne : ∀ (i : Nat) (d' : MP.D), e[i]? = some (some (d', true)) → σ[i]? ≠ some (some (V.ref D))) : Slots K w J (upd H D o) σ e := by
  refine ⟨h.len, h.sh, fun i d' hi => ?_, h.apart⟩
  obtain ⟨a, h1, o', h2, h3⟩ := h.own i d' hi
  refine ⟨a, h1, o', ?_, h3⟩
  rw [upd_ne fun z => hne i d' hi (by rw [h1, z])]
  exact h2
/-- the inner turn of a comprehension of two clauses -/
def step1 (Y : Ctx) (cel : C) (tn1 : Tn) (ccond1 : List C) (vs1 : List Nat) (e1 : MP.Env) : D → List D → MM (List D) := fun d acc => match bindT false tn1 d (wipeE e1 vs1) with
  | none => bad
  | some e2 => MM.bind (denT Y ccond1 e2) fun b => if b then MM.bind (den Y cel e2) fun y => if acc.length < szLine then MM.pure (acc ++ [y.1]) else bad else MM.pure acc
def step2 (Y : Ctx) (cel : C) (tn : Tn) (ccond : List C) (tn1 : Tn) (kk1 : ItK) (cs1 ccond1 : List C) (vs vs1 : List Nat) (e : MP.Env) : D → List D → MM (List D) := fun d acc => match bindT false tn d (wipeE e vs) with
  | none => bad
  | some e1 => MM.bind (denT Y ccond e1) fun b => if b then MM.bind (denL Y cs1 e1) fun ds1 => match itO kk1 ds1 with
      | none => bad
      | some items1 => loopL (step1 Y cel tn1 ccond1 vs1 e1) items1 acc
    else MM.pure acc
theorem lc2_read {cel : C} {tn tn1 : Tn} {kk kk1 : ItK} {cs ccond cs1 ccond1 : List C} {vs vs1 : List Nat} (hix : tn.ixs.all vs.contains = true) (hix1 : vs1 = tn1.ixs) :
    ∀ σ H Q, rdE Y ER W X (.lc2 cel tn kk cs ccond tn1 kk1 cs1 ccond1 vs vs1) σ H Q → tLc2 (rdI Y ER W X kk cs) (gD X tn) (rdTs Y ER (fun _ _ _ _ => False) X ccond) (rdI Y ER (fun _ _ _ _ => False) X kk1 cs1) (gD X tn1) (rdTs Y ER (fun _ _ _ _ => False) X ccond1) (rdE Y ER (fun _ _ _ _ => False) X cel) vs vs1 σ H Q := by
  intro σ H Q h
  obtain ⟨J, M, e, hd, sl, h⟩ := h
  generalize hstep : step2 Y cel tn ccond tn1 kk1 cs1 ccond1 vs vs1 e = step
  have h' : ResG X ER W σ J H (MM.bind (MM.bind (denL Y cs e) fun ds => orBad (itO kk ds)) (fun items => MM.bind (noExc (loopL step items [])) fun acc => MM.pure (.lst acc, true)) M) (fun x _ J' H' => ∀ v, RepO X.K X.w J' H H' v x.1 x.2 → Q v H') := by
    have e1 : den Y (.lc2 cel tn kk cs ccond tn1 kk1 cs1 ccond1 vs vs1) e = MM.bind (denL Y cs e) fun ds => match itO kk ds with
      | none => bad
      | some items => MM.bind (noExc (loopL step items [])) fun acc => MM.pure (.lst acc, true) := by subst hstep; rfl
    rw [e1] at h
    have e2 : ∀ M, MM.bind (denL Y cs e) (fun ds => match itO kk ds with
      | none => bad
      | some items => MM.bind (noExc (loopL step items [])) fun acc => MM.pure (.lst acc, true)) M = MM.bind (MM.bind (denL Y cs e) fun ds => orBad (itO kk ds)) (fun items => MM.bind (noExc (loopL step items [])) fun acc => MM.pure (D.lst acc, true)) M := by
      intro M
      unfold MM.bind
      cases denL Y cs e M with
      | ok ds M1 => dsimp only; cases itO kk ds <;> rfl
      | exc _ _ _ => rfl
      | bad => rfl
    rw [e2] at h; exact h
  refine ⟨J, M, e, hd, sl, ?_⟩
  refine (ResG.bind h').imp fun items M1 J1 H1 g1 hd1 h3 it hit => ?_
  intro DD hDD
  obtain ⟨gA, hdA, p0, ep0, _, ownA⟩ := new_own (d := .lst []) hd1 hDD (.lst .nil)
  cases ep0
  obtain ⟨accF, MF, hL, hF⟩ : ∃ accF MF, loopL step items [] M1 = .ok accF MF ∧ ∀ J' H', Go J1 H1 J' H' → Hold X.K X.w J' MF H' → Own X.K X.w J' H' DD (.lst accF) → Q (.ref DD) H' := by
    cases q : noExc (loopL step items []) M1 with
    | ok acc M2 =>
      unfold MM.bind at h3
      rw [q] at h3
      refine ⟨acc, M2, noExc_ok q, fun J' H' g hd2 own2 => h3 J' H' g hd2 _ ⟨DD, rfl, none_of_not fun z => ?_, own2⟩⟩
      have := g1.keepR DD z
      rw [hDD] at this; cases this
    | exc c p M2 =>
      unfold noExc at q
      cases q2 : loopL step items [] M1 <;> rw [q2] at q <;> cases q
    | bad =>
      unfold MM.bind at h3
      rw [q] at h3; exact h3.elim
  have hneσ : ∀ (i : Nat) (d' : D), e[i]? = some (some (d', true)) → σ[i]? ≠ some (some (V.ref DD)) := by
    intro i d' hi hz
    obtain ⟨a, h1, o', h2, _⟩ := sl.own i d' hi
    rw [h1] at hz
    cases hz
    have := g1.keepR DD (by rw [h2]; rfl)
    rw [hDD] at this; cases this
  refine ⟨fun i m H' => ∃ J' M' acc, m = items.length - i ∧ Go J1 H1 J' H' ∧ Hold X.K X.w J' M' H' ∧ Own X.K X.w J' H' DD (.lst acc) ∧ loopL step (items.drop i) acc M' = .ok accF MF,
    ⟨items.length, J1, M1, [], by simp, gA, hdA, ownA, by rw [List.drop_zero]; exact hL⟩, ?_⟩
  rintro i m H2 ⟨J2, M2, acc, rfl, g2, hd2, own2, h5⟩
  have ex2 : Ext J1 J2 := g2.ext
  obtain ⟨hstop, hgo⟩ := hit i J2 M2 H2 ex2 hd2
  have sl2 : Slots X.K X.w J2 H2 σ e := (sl.go g1).go g2
  by_cases hlt : items.length ≤ i
  · refine .inl ⟨hstop hlt, ?_⟩
    rw [List.drop_of_length_le hlt] at h5
    have h5' : (.ok acc M2 : R (List D)) = .ok accF MF := h5
    cases h5'
    exact hF J2 H2 g2 hd2 own2
  · have hlt' : i < items.length := by omega
    have hget : items[i]? = some items[i] := List.getElem?_eq_getElem hlt'
    obtain ⟨hgo1, hyld⟩ := hgo _ hget
    refine .inr ⟨hgo1, fun H' => ∃ J' M' acc, Go J1 H1 J' H' ∧ Hold X.K X.w J' M' H' ∧ Own X.K X.w J' H' DD (.lst acc) ∧ loopL step (items.drop (i + 1)) acc M' = .ok accF MF,
      fun H' ⟨J', M', acc, a1, a2, a3, a4⟩ => ⟨items.length - (i + 1), by omega, J', M', acc, rfl, a1, a2, a3, a4⟩, fun x H3 hy => ?_⟩
    obtain ⟨J3, g3, hd3, rx⟩ := hyld x H3 hy
    rw [List.drop_eq_getElem_cons hlt', loopL_cons] at h5
    obtain ⟨acc1, M6, h6, h7⟩ := bind_ok h5
    have own3 := own2.go g3
    have sl3 := (sl2.go g3).wipe vs
    cases qb : bindT false tn items[i] (wipeE e vs) with
    | none =>
      have : step items[i] acc = bad := by subst hstep; show (match bindT false tn items[i] (wipeE e vs) with | none => bad | some e' => _) = _; rw [qb]
      rw [this] at h6
      cases h6
    | some e1 =>
      have es : step items[i] acc = MM.bind (denT Y ccond e1) fun b => if b then MM.bind (denL Y cs1 e1) fun ds1 => match itO kk1 ds1 with
          | none => bad
          | some items1 => loopL (step1 Y cel tn1 ccond1 vs1 e1) items1 acc
        else MM.pure acc := by
        subst hstep; show (match bindT false tn items[i] (wipeE e vs) with | none => bad | some e' => _) = _; rw [qb]
      rw [es] at h6
      obtain ⟨b, M3, qt, h8⟩ := bind_ok h6
      refine ⟨J3, M2, items[i], wipeE e vs, e1, hd3, sl3, rx, qb, fun σ2 slb only => ⟨?_, ?_⟩⟩
      · have := only vs fun i hi => by
          have := List.all_eq_true.mp hix i hi
          simpa using this
        rw [this]
        exact wipe_idem vs vs fun _ h => h
      · have hne2 : ∀ (i : Nat) (d' : D), e1[i]? = some (some (d', true)) → σ2[i]? ≠ some (some (V.ref DD)) := by
          intro j d' hj hz
          obtain ⟨a1, a2⟩ := bindT_new tn qb j d' hj
          obtain ⟨a3, a4⟩ := wipeE_some a1
          have a5 := only tn.ixs fun _ h => h
          have a6 : (L2.wipe σ2 tn.ixs)[j]? = σ2[j]? := wipe_get a2
          rw [a5, wipe_get a2, wipe_get a4] at a6
          exact hneσ j d' a3 (a6.trans hz)
        refine ⟨J3, M2, e1, hd3, slb, ?_⟩
        rw [qt]
        intro J4 H4 g4 hd4
        have own4 := own3.go g4
        have gAll4 : Go J1 H1 J4 H4 := (g2.trans g3).trans g4
        cases b with
        | false =>
          rw [if_neg Bool.false_ne_true] at h8
          cases h8
          show (if false = true then _ else _)
          rw [if_neg Bool.false_ne_true]
          exact ⟨J4, _, acc, gAll4, hd4, own4, h7⟩
        | true =>
          rw [if_pos rfl] at h8
          show (if true = true then _ else _)
          rw [if_pos rfl]
          have slb4 := slb.go g4
          obtain ⟨ds1, M4, qs, h9⟩ := bind_ok h8
          cases qi : itO kk1 ds1 with
          | none =>
            simp only [qi] at h9
            cases h9
          | some items1 =>
          simp only [qi] at h9
          refine ⟨J4, M3, e1, hd4, slb4, ?_⟩
          have qq : MM.bind (denL Y cs1 e1) (fun ds => orBad (itO kk1 ds)) M3 = .ok items1 M4 := by
            unfold MM.bind; rw [qs]; show orBad (itO kk1 ds1) M4 = _; rw [qi]; rfl
          rw [qq]
          intro J5 H5 g5 hd5 it1 hit1
          have own5 := own4.go g5
          have gAll5 := gAll4.trans g5
          have slb5 := slb4.go g5
          refine ⟨fun j n H' => ∃ J' M' acc', n = items1.length - j ∧ Ext J5 J' ∧ Go J1 H1 J' H' ∧ Hold X.K X.w J' M' H' ∧ Own X.K X.w J' H' DD (.lst acc') ∧ Slots X.K X.w J' H' σ2 e1 ∧ loopL (step1 Y cel tn1 ccond1 vs1 e1) (items1.drop j) acc' M' = .ok acc1 M6,
            ⟨items1.length, J5, M4, acc, by simp, .refl _, gAll5, hd5, own5, slb5, by rw [List.drop_zero]; exact h9⟩, ?_⟩
          rintro j n H6 ⟨J6, M7, acc', rfl, g6, gA6, hd6, own6, sl6, h10⟩
          obtain ⟨hstop1, hgo1⟩ := hit1 j J6 M7 H6 g6 hd6
          by_cases hlt1 : items1.length ≤ j
          · refine .inl ⟨hstop1 hlt1, ?_⟩
            rw [List.drop_of_length_le hlt1] at h10
            have h10' : (.ok acc' M7 : R (List D)) = .ok acc1 M6 := h10
            cases h10'
            exact ⟨J6, _, _, gA6, hd6, own6, h7⟩
          · have hlt1' : j < items1.length := by omega
            have hget1 : items1[j]? = some items1[j] := List.getElem?_eq_getElem hlt1'
            obtain ⟨hgo2, hyld1⟩ := hgo1 _ hget1
            refine .inr ⟨hgo2, fun H' => ∃ J' M' acc', Ext J5 J' ∧ Go J1 H1 J' H' ∧ Hold X.K X.w J' M' H' ∧ Own X.K X.w J' H' DD (.lst acc') ∧ Slots X.K X.w J' H' σ2 e1 ∧ loopL (step1 Y cel tn1 ccond1 vs1 e1) (items1.drop (j + 1)) acc' M' = .ok acc1 M6,
              fun H' ⟨J', M', acc, a0, a1, a2, a3, a4, a5⟩ => ⟨items1.length - (j + 1), by omega, J', M', acc, rfl, a0, a1, a2, a3, a4, a5⟩, fun x1 H7 hy1 => ?_⟩
            obtain ⟨J7, g7, hd7, rx1⟩ := hyld1 x1 H7 hy1
            rw [List.drop_eq_getElem_cons hlt1', loopL_cons] at h10
            obtain ⟨acc2, M8, h11, h12⟩ := bind_ok h10
            have own7 := own6.go g7
            have sl7 := sl6.go g7
            have slw := sl7.wipe vs1
            cases qb1 : bindT false tn1 items1[j] (wipeE e1 vs1) with
            | none =>
              have : step1 Y cel tn1 ccond1 vs1 e1 items1[j] acc' = bad := by unfold step1; rw [qb1]
              rw [this] at h11
              cases h11
            | some e2 =>
              have es1 : step1 Y cel tn1 ccond1 vs1 e1 items1[j] acc' = MM.bind (denT Y ccond1 e2) fun b => if b then MM.bind (den Y cel e2) fun y => if acc'.length < szLine then MM.pure (acc' ++ [y.1]) else bad else MM.pure acc' := by
                unfold step1; rw [qb1]
              rw [es1] at h11
              obtain ⟨b1, M9, qt1, h13⟩ := bind_ok h11
              refine ⟨J7, M7, items1[j], wipeE e1 vs1, e2, hd7, slw, rx1, qb1, fun σ3 slb1 only1 => ⟨?_, ?_⟩⟩
              · have := only1 vs1 fun i hi => by rw [hix1]; exact hi
                rw [this]
                exact wipe_idem vs1 vs1 fun _ h => h
              · refine ⟨J7, M7, e2, hd7, slb1, ?_⟩
                rw [qt1]
                intro J8 H8 g8 hd8
                have own8 := own7.go g8
                have sl8 := sl7.go g8
                cases b1 with
                | false =>
                  rw [if_neg Bool.false_ne_true] at h13
                  cases h13
                  show (if false = true then _ else _)
                  rw [if_neg Bool.false_ne_true]
                  exact ⟨J8, _, acc', (g6.trans g7.ext).trans g8.ext, (gA6.trans g7).trans g8, hd8, own8, sl8, h12⟩
                | true =>
                  rw [if_pos rfl] at h13
                  show (if true = true then _ else _)
                  rw [if_pos rfl]
                  have slb8 := slb1.go g8
                  obtain ⟨y, M10, qe, h14⟩ := bind_ok h13
                  refine ⟨J8, M9, e2, hd8, slb8, ?_⟩
                  rw [qe]
                  intro J9 H9 g9 hd9 v ry
                  obtain ⟨J10, g10, hd10, r10⟩ := ry.share g9 hd9
                  have own9 : Own X.K X.w J10 H9 DD (.lst acc') := own8.go g10
                  obtain ⟨o, ho, hI, hr, orr⟩ := id own9
                  cases orr with
                  | lst rl =>
                    rename_i xs
                    by_cases hsz : acc'.length < szLine
                    · rw [if_pos hsz] at h14
                      cases h14
                      refine ⟨xs, ho, by rw [rl.len, ← szLine_eq]; exact hsz, ?_⟩
                      obtain ⟨hd11, own11⟩ := Own.put (d' := .lst (acc' ++ [y.1])) (o := .lst (xs ++ [v])) hd10 own9 (.lst (rl.app (.one r10)))
                      exact ⟨J10, _, acc' ++ [y.1], ((g6.trans g7.ext).trans g8.ext).trans g10.ext, (((gA6.trans g7).trans g8).trans g10).put hDD, hd11, own11, slots_upd (sl8.go g10) hne2, h12⟩
                    · rw [if_neg hsz] at h14
                      cases h14
/-- a comprehension of two clauses -/
theorem e_lc2 {el tg it tg1 it1 : Expr} {cond cond1 : List Expr} {sc : Scope} {pos : Pos} {cel : C} {tn tn1 : Tn} {kk kk1 : ItK} {cs ccond cs1 ccond1 : List C} (ok : XOk S Y ER k W X) (hi : PI X tg it (rdI Y ER W X kk cs)) (hblk : blkC S.N S.sc sc (ownOf S.N sc) = true)
    (hix : tn.ixs.all ((ownOf S.N sc).map (·.2)).contains = true) (hix1 : tn1.ixs.all ((ownOf S.N sc).map (·.2)).contains = true)
    (hg : ∀ {X' : Cx} {W' : WX}, XOk { S with sc := sc } Y ER k W' X' → PG X' tg (gD X' tn))
    (ht : ∀ {X' : Cx} {W' : WX}, XOk { S with sc := sc } Y ER k W' X' → PTs X' cond (rdTs Y ER W' X' ccond))
    (hi1 : ∀ {X' : Cx} {W' : WX}, XOk { S with sc := sc } Y ER k W' X' → PI X' tg1 it1 (rdI Y ER W' X' kk1 cs1))
    (hg1 : ∀ {X' : Cx} {W' : WX}, XOk { S with sc := sc } Y ER k W' X' → PG X' tg1 (gD X' tn1))
    (ht1 : ∀ {X' : Cx} {W' : WX}, XOk { S with sc := sc } Y ER k W' X' → PTs X' cond1 (rdTs Y ER W' X' ccond1))
    (he : ∀ {X' : Cx} {W' : WX}, XOk { S with sc := sc } Y ER k W' X' → PE X' el (rdE Y ER W' X' cel))
    (hfs : ∀ env x, foldedSetIterable it env x = pure x) (hfs1 : ∀ {X' : Cx} {W' : WX}, XOk { S with sc := sc } Y ER k W' X' → ∀ env x, foldedSetIterable it1 env x = pure x) :
    PE X (.ListComp el [⟨tg, it, cond, 0⟩, ⟨tg1, it1, cond1, 0⟩] sc pos) (rdE Y ER W X (.lc2 cel tn kk cs ccond tn1 kk1 cs1 ccond1 ((ownOf S.N sc).map (·.2)) tn1.ixs)) := by
  have hN : X.N.Nodup := by rw [ok.N]; exact ok.nd
  refine ⟨fun pins s σ H Q I h => ?_⟩
  refine (pe_lc2 (own := ownOf S.N sc) (vs1 := tn1.ixs) ok.calm hN hi (blk_ok ok hblk) (fun i hi => by have := List.all_eq_true.mp hix1 i hi; simpa using this)
    (fun s H C cl fp => hg (ok.blk s H C cl fp)) (fun s H C cl fp => ht (ok.blk s H C cl fp)) (fun s H C cl fp => hi1 (ok.blk s H C cl fp)) (fun s H C cl fp => hg1 (ok.blk s H C cl fp)) (fun s H C cl fp => ht1 (ok.blk s H C cl fp)) (fun s H C cl fp => he (ok.blk s H C cl fp)) (hfs _) (hfs1 (ok.blk s H 0 [] []))).run pins s σ H Q I (lc2_read hix rfl σ H Q h)
end
end MP
end

section
set_option linter.all false
set_option Elab.async false
set_option maxRecDepth 100000
set_option maxHeartbeats 4000000
namespace MP
open PySem PySem.Spec PyProof.Rows L2
section
variable {S : Cs} {Y : Ctx} {ER : ExR} {k : Nat} {W : WX} {X : Cx}
theorem PE.b {e : Expr} {c : C} (h : PE X e (rdE Y ER W X c)) : PE X e (rdB Y ER W X c) := PE.imp h fun _ _ _ h => rdE_B h
theorem i_enum {elts : List Expr} {kk : Nat} {tpos : Pos} {a : Expr} {c : C} {p pos : Pos} (ok : XOk S Y ER k W X) (hg : isGl S "enumerate" = true) (ha : PE X a (rdE Y ER W X c)) (na : ∀ rest env, starEach (a :: rest) env = (false, eval a env) :: starEach rest env) :
    PI X (.Tuple elts kk tpos) (.Call (.Name "enumerate" p) [a] [] pos) (rdI Y ER W X .enum [c]) := by
  refine PI.imp (pi_enumA (gl_of ok hg) (ok.blt _ (by simp)) (a_cons ha a_nil (na _ _)) (na _ _)) fun σ H R h => ?_
  obtain ⟨J, M, e, hd, sl, h⟩ := h
  refine rdL_seq hd sl h fun ds M1 J1 H1 vs g1 hd1 sl1 r1 hn h1 => ?_
  obtain ⟨items, e', q⟩ := orBad_some h1 hd1
  match ds, e' with
  | [d], e' =>
    cases r1 with
    | cons r t =>
      cases t
      cases d <;> simp only [itO, reduceCtorEq, Option.some.injEq] at e'
      · subst e'
        cases r with
        | tup j l => exact ⟨_, _, rfl, .inr ⟨hd1.sqT j, q J1 H1 (.refl _ _) hd1 _ (itOk_enumT j l)⟩⟩
      · subst e'
        cases r with
        | lst j l => exact ⟨_, _, rfl, .inl ⟨hd1.sqL j, q J1 H1 (.refl _ _) hd1 _ (itOk_enum j l)⟩⟩
  | [], e' => simp [itO] at e'
  | _ :: _ :: _, e' => simp [itO] at e'
theorem bi1_ok {f : Str} {b : Bi} (ok : XOk S Y ER k W X) (h : bi1 f = some b) : ∃ v, bootBuiltins f = some v ∧ ((∃ id, v = .builtin id) ∨ ∃ T, v = .type T) ∧ CallR X v (rBi X b) ∧ X.mg f = none ∧ f ≠ "__name__" ∧ (f == ("__debug__" : Str)) = false := by
  have hu : X.A.units + 64 < cLine := ok.room.units
  have go : ∀ (g : Str) (v : Value), f = g → bootBuiltins g = some v → ((∃ id, v = .builtin id) ∨ ∃ T, v = .type T) → CallR X v (rBi X b) → g ∈ (["len", "tuple", "list", "all", "any", "int", "str", "repr", "abs", "min", "max", "sum", "sorted", "dict", "divmod", "range", "zip", "enumerate", "isinstance", "bool"] : List Str) → g ≠ "__name__" → (g == ("__debug__" : Str)) = false →
      ∃ v, bootBuiltins f = some v ∧ ((∃ id, v = .builtin id) ∨ ∃ T, v = .type T) ∧ CallR X v (rBi X b) ∧ X.mg f = none ∧ f ≠ "__name__" ∧ (f == ("__debug__" : Str)) = false := by
    rintro g v rfl h1 h2 h3 h4 h5 h6
    exact ⟨v, h1, h2, h3, ok.blt _ h4, h5, h6⟩
  unfold bi1 at h
  by_cases e : (f == "len") = true
  · rw [if_pos e] at h; cases h; exact go _ _ (eq_of_beq e) (by decide +kernel : bootBuiltins "len" = some (.builtin "len")) (.inl ⟨_, rfl⟩) bi_len (by simp) (by decide) (by decide)
  rw [if_neg e] at h
  by_cases e : (f == "tuple") = true
  · rw [if_pos e] at h; cases h; exact go _ _ (eq_of_beq e) (by decide +kernel : bootBuiltins "tuple" = some (.type "tuple")) (.inr ⟨_, rfl⟩) bi_tuple (by simp) (by decide) (by decide)
  rw [if_neg e] at h
  by_cases e : (f == "list") = true
  · rw [if_pos e] at h; cases h; exact go _ _ (eq_of_beq e) (by decide +kernel : bootBuiltins "list" = some (.type "list")) (.inr ⟨_, rfl⟩) bi_list (by simp) (by decide) (by decide)
  rw [if_neg e] at h
  by_cases e : (f == "all") = true
  · rw [if_pos e] at h; cases h; exact go _ _ (eq_of_beq e) (by decide +kernel : bootBuiltins "all" = some (.builtin "all")) (.inl ⟨_, rfl⟩) (bi_allany ok.calm).1 (by simp) (by decide) (by decide)
  rw [if_neg e] at h
  by_cases e : (f == "any") = true
  · rw [if_pos e] at h; cases h; exact go _ _ (eq_of_beq e) (by decide +kernel : bootBuiltins "any" = some (.builtin "any")) (.inl ⟨_, rfl⟩) (bi_allany ok.calm).2 (by simp) (by decide) (by decide)
  rw [if_neg e] at h
  by_cases e : (f == "int") = true
  · rw [if_pos e] at h; cases h; exact go _ _ (eq_of_beq e) (by decide +kernel : bootBuiltins "int" = some (.type "int")) (.inr ⟨_, rfl⟩) bi_int (by simp) (by decide) (by decide)
  rw [if_neg e] at h
  by_cases e : (f == "str") = true
  · rw [if_pos e] at h; cases h; exact go _ _ (eq_of_beq e) (by decide +kernel : bootBuiltins "str" = some (.type "str")) (.inr ⟨_, rfl⟩) bi_str (by simp) (by decide) (by decide)
  rw [if_neg e] at h
  by_cases e : (f == "repr") = true
  · rw [if_pos e] at h; cases h; exact go _ _ (eq_of_beq e) (by decide +kernel : bootBuiltins "repr" = some (.builtin "repr")) (.inl ⟨_, rfl⟩) (bi_repr ok.guards hu) (by simp) (by decide) (by decide)
  rw [if_neg e] at h
  by_cases e : (f == "abs") = true
  · rw [if_pos e] at h; cases h; exact go _ _ (eq_of_beq e) (by decide +kernel : bootBuiltins "abs" = some (.builtin "abs")) (.inl ⟨_, rfl⟩) bi_abs (by simp) (by decide) (by decide)
  rw [if_neg e] at h
  by_cases e : (f == "min") = true
  · rw [if_pos e] at h; cases h; exact go _ _ (eq_of_beq e) (by decide +kernel : bootBuiltins "min" = some (.builtin "min")) (.inl ⟨_, rfl⟩) (bi_minl ok.calm) (by simp) (by decide) (by decide)
  rw [if_neg e] at h
  by_cases e : (f == "sum") = true
  · rw [if_pos e] at h; cases h; exact go _ _ (eq_of_beq e) (by decide +kernel : bootBuiltins "sum" = some (.builtin "sum")) (.inl ⟨_, rfl⟩) (bi_sum ok.calm) (by simp) (by decide) (by decide)
  rw [if_neg e] at h
  by_cases e : (f == "max") = true
  · rw [if_pos e] at h; cases h; exact go _ _ (eq_of_beq e) (by decide +kernel : bootBuiltins "max" = some (.builtin "max")) (.inl ⟨_, rfl⟩) (bi_maxl ok.calm) (by simp) (by decide) (by decide)
  rw [if_neg e] at h
  cases h
theorem bi2_ok {f : Str} {b : Bi} (ok : XOk S Y ER k W X) (h : bi2 f = some b) : ∃ id, bootBuiltins f = some (.builtin id) ∧ CallR X (.builtin id) (rBi X b) ∧ X.mg f = none ∧ f ≠ "__name__" ∧ (f == ("__debug__" : Str)) = false := by
  have go : ∀ (g : Str) (v : String), f = g → bootBuiltins g = some (.builtin v) → CallR X (.builtin v) (rBi X b) → g ∈ (["len", "tuple", "list", "all", "any", "int", "str", "repr", "abs", "min", "max", "sum", "sorted", "dict", "divmod", "range", "zip", "enumerate", "isinstance", "bool"] : List Str) → g ≠ "__name__" → (g == ("__debug__" : Str)) = false →
      ∃ id, bootBuiltins f = some (.builtin id) ∧ CallR X (.builtin id) (rBi X b) ∧ X.mg f = none ∧ f ≠ "__name__" ∧ (f == ("__debug__" : Str)) = false := by
    rintro g v rfl h1 h3 h4 h5 h6
    exact ⟨v, h1, h3, ok.blt _ h4, h5, h6⟩
  unfold bi2 at h
  split at h
  · rename_i e; cases h; exact go _ _ (eq_of_beq e) (by decide +kernel : bootBuiltins "min" = some (.builtin "min")) (bi_min ok.calm) (by simp) (by decide) (by decide)
  split at h
  · rename_i e; cases h; exact go _ _ (eq_of_beq e) (by decide +kernel : bootBuiltins "max" = some (.builtin "max")) (bi_max ok.calm) (by simp) (by decide) (by decide)
  split at h
  · rename_i e; cases h; exact go _ _ (eq_of_beq e) (by decide +kernel : bootBuiltins "divmod" = some (.builtin "divmod")) bi_divmod (by simp) (by decide) (by decide)
  · cases h
theorem tyOf_ok {x : Str} {t : Ty} (h : tyOf x = some t) : x = PySem.Str.ofString (tyName t) ∧ builtTy t = true ∧ x ∈ (["len", "tuple", "list", "all", "any", "int", "str", "repr", "abs", "min", "max", "sum", "sorted", "dict", "divmod", "range", "zip", "enumerate", "isinstance", "bool"] : List Str) := by
  unfold tyOf at h
  split at h
  · rename_i e; cases h; exact ⟨eq_of_beq e, rfl, by rw [eq_of_beq e]; simp⟩
  split at h
  · rename_i e; cases h; exact ⟨eq_of_beq e, rfl, by rw [eq_of_beq e]; simp⟩
  split at h
  · rename_i e; cases h; exact ⟨eq_of_beq e, rfl, by rw [eq_of_beq e]; simp⟩
  split at h
  · rename_i e; cases h; exact ⟨eq_of_beq e, rfl, by rw [eq_of_beq e]; simp⟩
  · cases h
end
end MP
end

section
set_option linter.all false
set_option Elab.async false
set_option maxRecDepth 100000
set_option maxHeartbeats 4000000
namespace MP
open PySem PySem.Spec PyProof.Rows L2
theorem cnt_countS (c : Nat) : ∀ s : List Nat, cnt c s = (countS s c : Nat)
  | [] => rfl
  | n :: s => by
    rw [cnt_cons, cnt_countS c s]
    unfold countS
    rw [List.countP_cons]
    by_cases h : n = c <;> simp [h]
    omega
theorem count_eq (s : List Nat) (c : Nat) : Txt.count (sOf s) (sOf [c]) = (countS s c : Nat) := by
  have h := count_is (sOf s) c
  rw [show (sOf [c]) = (⟨#[c]⟩ : PySem.Str) from rfl, h]
  have := cnt_countS c s
  unfold cnt at this
  rw [sOf_cps]; exact this
theorem join_eq' (sep : List Nat) : ∀ ws : List (List Nat), PySem.Str.join (sOf sep) (ws.map sOf) = sOf (joinL sep ws)
  | [] => rfl
  | [x] => rfl
  | x :: y :: r => by
    have ih := join_eq' sep (y :: r)
    show sOf x ++ sOf sep ++ PySem.Str.join (sOf sep) (sOf y :: r.map sOf) = _
    rw [show sOf y :: r.map sOf = (y :: r).map sOf from rfl, ih, sOf_app, sOf_app]
    rfl
theorem join_eq (sep : List Nat) (ws : List (List Nat)) : Txt.join (sOf sep) (ws.map sOf) = sOf (joinL sep ws) := by
  show Builtin.Str.glued _ _ = _
  rw [StrLaws.glued_eq_join]
  exact join_eq' sep ws
theorem joinL_cons (c : Nat) (w : List Nat) (ws : List (List Nat)) (h : ws ≠ []) : joinL [c] (w :: ws) = w ++ c :: joinL [c] ws := by
  cases ws with
  | nil => exact absurd rfl h
  | cons y r => simp [joinL]
theorem splitL_ne (c : Nat) : ∀ s, splitL c s ≠ []
  | [] => by simp [splitL]
  | n :: s => by
    unfold splitL
    split
    · simp
    · split <;> simp
theorem splitL_free (c : Nat) : ∀ (w : List Nat), c ∉ w → splitL c w = [w]
  | [], _ => rfl
  | n :: w, h => by
    have hn : (n == c) = false := by
      have : n ≠ c := fun e => h (by simp [e])
      simpa using this
    unfold splitL
    rw [hn, splitL_free c w fun z => h (List.mem_cons_of_mem _ z)]
    simp
theorem splitL_app (c : Nat) : ∀ (w s : List Nat), c ∉ w → splitL c (w ++ c :: s) = w :: splitL c s
  | [], s, _ => by simp [splitL]
  | n :: w, s, h => by
    have hn : (n == c) = false := by
      have : n ≠ c := fun e => h (by simp [e])
      simpa using this
    rw [List.cons_append]
    conv => lhs; unfold splitL
    rw [hn, splitL_app c w s fun z => h (List.mem_cons_of_mem _ z)]
    simp
theorem splitL_join (c : Nat) : ∀ (ws : List (List Nat)), ws ≠ [] → (∀ w ∈ ws, c ∉ w) → splitL c (joinL [c] ws) = ws
  | [], h, _ => absurd rfl h
  | [w], _, h => by
    show splitL c w = [w]
    exact splitL_free c w (h w (by simp))
  | w :: y :: r, _, h => by
    rw [joinL_cons c w (y :: r) (by simp), splitL_app c w _ (h w (by simp)), splitL_join c (y :: r) (by simp) fun z hz => h z (by simp [hz])]
theorem split_eq (s : List Nat) (c : Nat) : Txt.split (sOf s) (sOf [c]) = (splitL c s).map sOf := by
  have e : ∀ (l : List PySem.Str), l = (l.map fun x => x.cps.toList).map sOf := by
    intro l
    induction l with
    | nil => rfl
    | cons a l ih => rw [List.map_cons, List.map_cons, ← ih, sOf_of]
  have h1 := StrLaws.join_split (sOf s) (sOf [c])
  have h2 := StrLaws.split_free (sOf s) c
  have h3 := split_pos (sOf s) (sOf [c])
  rw [show (⟨#[c]⟩ : PySem.Str) = sOf [c] from rfl] at h2
  generalize Txt.split (sOf s) (sOf [c]) = L at h1 h2 h3
  rw [e L, join_eq'] at h1
  have h4 := sOf_inj h1
  rw [← h4, splitL_join c _ (by intro z; have : L = [] := List.map_eq_nil_iff.mp z; rw [this] at h3; simp at h3) fun w hw => ?_]
  · exact e L
  · obtain ⟨x, hx, rfl⟩ := List.mem_map.mp hw
    exact h2 x hx
theorem occ1_run (x : PySem.Str) (c : Nat) : ∀ (m cur : Nat) (st : Array Nat × Nat), st.fst = #[] → st.snd ≤ cur → cur + m = x.length + 1 → (∀ k, k < cur → x.cps.toList[k]? ≠ some c) →
    ∀ i, x.cps.toList[i]? = some c → (∀ k, k < i → x.cps.toList[k]? ≠ some c) → (forIn (List.range' cur m) st (StrLaws.occBody x ⟨#[c]⟩ x.length 1)).run.fst = #[i]
  | 0, cur, st, h, hs, hm, hn, i, hi, _ => by
    exfalso
    have : i < x.length := by
      have := (List.getElem?_eq_some_iff.mp hi).1
      simpa [PySem.Str.length] using this
    exact hn i (by omega) hi
  | m + 1, cur, st, h, hs, hm, hn, i, hi, hf => by
    rw [List.range'_succ, List.forIn_cons]
    have key : ∀ j, x.cps.toList[j]? = some c ↔ (j + (⟨#[c]⟩ : PySem.Str).length ≤ x.length ∧ Builtin.Str.subAt x ⟨#[c]⟩ j = true) := fun j => (StrLaws.subAt_one x c j).symm
    by_cases hc : cur = i
    · subst hc
      have hb : StrLaws.occBody x ⟨#[c]⟩ x.length 1 cur st = pure (ForInStep.yield (st.fst.push cur, cur + (⟨#[c]⟩ : PySem.Str).length)) := by
        unfold StrLaws.occBody
        rw [if_pos]
        have := (key cur).mp hi
        exact ⟨⟨⟨by rw [h]; simp, hs⟩, this.1⟩, this.2⟩
      rw [hb]
      have stay : ∀ (l : List Nat) (st : Array Nat × Nat), 1 ≤ st.fst.size → (forIn l st (StrLaws.occBody x ⟨#[c]⟩ x.length 1)).run.fst = st.fst := by
        intro l
        induction l with
        | nil => intro st _; rfl
        | cons a l ih =>
          intro st hst
          rw [List.forIn_cons]
          have : StrLaws.occBody x ⟨#[c]⟩ x.length 1 a st = pure (ForInStep.yield (st.fst, st.snd)) := by
            unfold StrLaws.occBody
            rw [if_neg]
            intro z
            have := z.1.1.1
            omega
          rw [this]
          exact ih _ hst
      have := stay (List.range' (cur + 1) m) (st.fst.push cur, cur + (⟨#[c]⟩ : PySem.Str).length) (by rw [h]; simp)
      rw [h] at this ⊢
      exact this
    · have hne : x.cps.toList[cur]? ≠ some c := by
        intro z
        rcases Nat.lt_trichotomy cur i with hlt | heq | hgt
        · exact hf cur hlt z
        · exact hc heq
        · exact hn i hgt hi
      have hb : StrLaws.occBody x ⟨#[c]⟩ x.length 1 cur st = pure (ForInStep.yield (st.fst, st.snd)) := by
        unfold StrLaws.occBody
        rw [if_neg]
        intro z
        exact hne ((key cur).mpr ⟨z.1.2, z.2⟩)
      rw [hb]
      refine occ1_run x c m (cur + 1) (st.fst, st.snd) h (by have : st.snd ≤ cur := hs; show st.snd ≤ cur + 1; omega) (by omega) (fun k hk => ?_) i hi hf
      by_cases hkc : k = cur
      · subst hkc; exact hne
      · exact hn k (by omega)
theorem idxOf_first (c : Nat) : ∀ (s : List Nat), s.contains c = true → s[s.idxOf c]? = some c ∧ ∀ k, k < s.idxOf c → s[k]? ≠ some c
  | [], h => by simp at h
  | n :: s, h => by
    by_cases hn : n = c
    · subst hn
      simp
    · have h' : s.contains c = true := by
        have : c ∈ n :: s := by simpa using h
        rcases List.mem_cons.mp this with e | e
        · exact absurd e.symm hn
        · simpa using e
      obtain ⟨h1, h2⟩ := idxOf_first c s h'
      have e : (n :: s).idxOf c = s.idxOf c + 1 := by
        rw [List.idxOf_cons]
        have : (n == c) = false := by simpa using hn
        rw [this]; rfl
      rw [e]
      refine ⟨by simpa using h1, fun k hk => ?_⟩
      cases k with
      | zero => simpa using hn
      | succ k => simpa using h2 k (by omega)
theorem occ1_eq (s : List Nat) (c : Nat) (h : s.contains c = true) : Builtin.Str.occurrences (sOf s) (sOf [c]) 0 (sOf s).length 1 = [s.idxOf c] := by
  obtain ⟨h1, h2⟩ := idxOf_first c s h
  rw [StrLaws.occ_eq]
  have := occ1_run (sOf s) c ((sOf s).length + 1 - 0) 0 (#[], 0) rfl (Nat.le_refl 0) (by omega) (fun k hk => absurd hk (by omega)) (s.idxOf c) (by rw [sOf_cps]; exact h1) (by rw [sOf_cps]; exact h2)
  rw [show (sOf [c]) = (⟨#[c]⟩ : PySem.Str) from rfl, this]
end MP
end

section
set_option linter.all false
set_option Elab.async false
set_option maxRecDepth 100000
set_option maxHeartbeats 4000000
namespace MP
open PySem PySem.Spec PyProof.Rows L2
section
variable {S : Cs} {Y : Ctx} {ER : ExR} {k : Nat} {W : WX} {X : Cx}
def isS : D → Bool
  | .str _ => true
  | _ => false
def isLs : D → Bool
  | .lst _ => true
  | _ => false
def isTu : D → Bool
  | .tup _ => true
  | _ => false
/-- the value is of that built-in type; tuples that are laid, too -/
def tyW (K : PySem.W.Frag) (T : String) (x : V) (H : Hp) : Prop := tyV K T x H ∨ (T = "tuple" ∧ ∃ p o l, x = .ref p ∧ H p = some (.frz o (.tup l)) ∧ o.dict = none)
theorem tyW_is {pins : List (Addr × Obj)} {σ : L2.St} {H : Hp} {s : Shared} {T : String} {x : V} {v : Value} (I : Inv X pins σ H s) (r : RelV x v) (ty : tyW X.K T x H) :
    s.TypeIs v T ∧ ∀ a, v = .ref a → ∃ ob, s.heap.get? a = some ob ∧ ob.dict = none := by
  rcases ty with ty | ⟨rfl, p, o, l, rfl, h1, h2⟩
  · exact tyV_is I r ty
  · cases r
    obtain ⟨ho, hz, its, rl, o', ho', hc, _⟩ := I.hok p _ h1
    rw [ho] at ho'
    cases ho'
    refine ⟨⟨o, ho, hc⟩, fun a e => ?_⟩
    cases e
    exact ⟨o, ho, h2⟩
def tBMW (K : PySem.W.Frag) (T : String) (r : V → List V → Hp → VK → Prop) (to : TE) (t : TA) : TE := fun σ H Q => to σ H fun x H1 => tyW K T x H1 ∧ t σ H1 fun xs H2 => r x xs H2 Q
theorem pe_bmW {o e : Expr} {es : List Expr} {to : TE} {t : TA} {name : Str} {apos cpos : Pos} {T id : String} {r : V → List V → Hp → VK → Prop} (pa : PlainAttrs T) (slot : Slot T name id) (hty : typeOf (.builtin id) = pure (.type "method_descriptor")) (hm : MtR X id r) (ho : PE X o to) (ha : PA X (e :: es) t)
    (hbase : attributeBase o name X.env (eval o X.env) = eval o X.env)
    (hfew : ((backTo cpos (starEach (e :: es) X.env)).all (fun x => !x.1) && (backToKw cpos (keywordEach [] X.env)).all (fun x => x.1.isSome)
      && decide ((e :: es).length + ([] : List Keyword).length + (if ([] : List Keyword).isEmpty then 0 else 1) < 30)) = true)
    (hline : (apos.endLine == cpos.line) = true) (hs : starEach (e :: es) X.env = (false, eval e X.env) :: starEach es X.env) (hplain : (backTo cpos (starEach es X.env)).any (·.1) = false) :
    PE X (.Call (.Attribute o name apos) (e :: es) [] cpos) (tBMW X.K T r to t) := by
  refine ⟨fun pins s σ H Q I h => ?_⟩
  refine wpAny_Call_method_late hbase hfew hline rfl (thn (ho.run pins s σ H _ I h) fun v s1 ⟨x, H1, I1, r1, ty, q1⟩ => ?_)
  obtain ⟨h1, h2⟩ := tyW_is I1 r1 ty
  refine ⟨T, id, pa, slot, hty, h1, h2, ?_⟩
  have hA := ha.run cpos pins s1 σ H1 _ I1 q1
  rw [hs] at hA ⊢
  refine Calls.callWith_builtin (by show (false || (backTo cpos (starEach es X.env)).any (·.1)) = false; rw [hplain] <;> rfl) (Calls.evalArgs_plain ?_)
  exact thn hA fun us s2 ⟨vs, H2, I2, r2, q2⟩ => hm pins s2 σ H2 x vs v us Q I2 r1 r2 q2
def rIndexT (K : PySem.W.Frag) : V → List V → Hp → VK → Prop := fun x xs H Q => ∃ (a : Addr) (y : V) (d : PyData) (ds : List PyData) (j : Nat) (z : PyData), x = V.ref a ∧ xs = [y] ∧ Dp K H (V.ref a) (.tuple ds) ∧ Dp K H y d ∧
  SeqAt.shaped (.tuple ds) = true ∧ SeqAt.shaped d = true ∧ ds[j]? = some z ∧ PyData.eqv z d = true ∧ (∀ (m : Nat) (z' : PyData), m < j → ds[m]? = some z' → PyData.eqv z' d = false) ∧ Q (.int (j : Nat)) H
theorem mt_indexT (hu : X.A.units + 65 < cLine) : MtR X "tuple.index" (rIndexT X.K) := by
  intro pins s σ H x xs v us Q I rx rxs h
  obtain ⟨a, y, d, ds, j, z, rfl, rfl, hl, hy, sl, sd, hz, hzj, hno, q⟩ := h
  cases rx
  cases rxs with
  | cons ry rt =>
    rename_i uy ut
    cases rt
    obtain ⟨bs, r1⟩ := Dp.reads I d y uy hy ry
    have hxs : PyData.canLayAll0 ds = true := by
      have := SeqAt.canLay_of_shaped sl
      simpa only [PyData.canLay0] using this
    have hroom : X.A.units + 1 + min (PyData.depthAll ds) d.depth < cLine := room_in_shaped sd hu
    cases hl with
    | tup hs ha =>
      obtain ⟨its, rv, ⟨⟨cls, dd, data, sls⟩, ho, hc, n, hdt⟩, hlen⟩ := I.tuple hs
      simp only at hc hdt
      subst hc hdt
      obtain ⟨as, h4⟩ := Dp.readsAll I ds _ its ha rv
      have hn : its.length = ds.length := SeqAt.ReadsAll.length ds its as h4
      have hmap : its.map (SeqAt.readOf s.heap) = ds := SeqAt.readsAll_map ds its as hxs h4
      have hvl := rv.length
      have hsl := sizeLine_eq
      obtain ⟨hjd, _⟩ := List.getElem?_eq_some_iff.mp hz
      have hjl : j < its.length := by omega
      have hj : j < its.toArray.size := by simpa using hjl
      have at_ : ∀ (m : Nat) (hm : m < its.toArray.size) (z' : PyData), ds[m]? = some z' → SeqAt.readOf s.heap its.toArray[m] = z' := by
        intro m hm z' hz'
        have hml : m < its.length := by simpa using hm
        rw [← hmap, List.getElem?_map, List.getElem?_eq_getElem hml] at hz'
        have e1 : SeqAt.readOf s.heap its[m] = z' := Option.some.inj (show some (SeqAt.readOf s.heap its[m]) = some z' from hz')
        simpa using e1
      refine call_meets PySem.F.slot_tuple_index ⟨_, ho, rfl⟩ PySem.F.entry_tuple_index (PySem.F.args_tuple_index_2 _ _)
        (TI.tuple_indexAt a its.toArray n dd sls uy (fun u => PyData.eqv (SeqAt.readOf s.heap u) d) j hj ?_ ?_) ⟨ho, SeqAt.items_eqAt (vs := its.toArray) (show ReadsAll s.heap its.toArray.toList ds as from h4) r1 hxs (SeqAt.canLay_of_shaped sd) hroom, ?_⟩
      · show PyData.eqv (SeqAt.readOf s.heap its.toArray[j]) d = true
        rw [at_ j hj z hz]
        exact hzj
      · intro m hm hmj
        have hmd : m < ds.length := by omega
        have hz' : ds[m]? = some ds[m] := List.getElem?_eq_getElem hmd
        show PyData.eqv (SeqAt.readOf s.heap its.toArray[m]) d = false
        rw [at_ m hm _ hz']
        exact hno m _ hmj hz'
      · exact ⟨.int (j : Nat), H, I.tok _, ⟨_, rfl⟩, q⟩
/-- a method of one built-in type: its receivers, what it gives -/
structure MtOk (X : Cx) (mt : Mt) (good : D → Bool) (T : String) (rr : V → List V → Hp → VK → Prop) : Prop where
  ty : ∀ J M H v d, Hold X.K X.w J M H → RepB X.K X.w J H v d → good d = true → tyW X.K T v H
  rd : ∀ J M H v d vs ds a Q, Hold X.K X.w J M H → RepB X.K X.w J H v d → good d = true → RepL X.K X.w J vs ds → mthO mt d ds = some a → Ans X J M H a (match a with | .lst _ => true | _ => false) Q → rr v vs H Q
theorem mth_read {mt : Mt} {good : D → Bool} {T : String} {rr : V → List V → Hp → VK → Prop} (h : MtOk X mt good T rr) {co : C} {cs : List C} {σ : L2.St} {H : Hp} {Q : VK} {J : Jt} {M : Mem} {e : MP.Env} (hd : Hold X.K X.w J M H) (sl : Slots X.K X.w J H σ e)
    (q : ResG X ER W σ J H (den Y (.mth mt co cs) e M) fun x _ J' H' => ∀ v, RepO X.K X.w J' H H' v x.1 x.2 → Q v H') (hg : ∀ x M1, den Y co e M = .ok x M1 → good x.1 = true) : tBMW X.K T rr (rdB Y ER W X co) (rdL Y ER W X cs) σ H Q := by
  rw [show den Y (.mth mt co cs) e = MM.bind (den Y co e) fun x => if rcv mt x.1 then MM.bind (denL Y cs e) fun ds => orBad ((mthO mt x.1 ds).map fun d => (d, match d with | .lst _ => true | _ => false)) else bad from rfl] at q
  have q' : ResG X ER W σ J H (MM.bind (den Y co e) (fun x => fun M => if good x.1 = true then MM.bind (denL Y cs e) (fun ds => orBad ((mthO mt x.1 ds).map fun d => (d, match d with | .lst _ => true | _ => false))) M else .bad) M) fun x _ J' H' => ∀ v, RepO X.K X.w J' H H' v x.1 x.2 → Q v H' := by
    unfold MM.bind at q ⊢
    cases hq : den Y co e M with
    | ok x M1 =>
      rw [hq] at q
      dsimp only at q ⊢
      rw [if_pos (hg x M1 hq)]
      by_cases hr : rcv mt x.1 = true
      · rw [if_pos hr] at q; exact q
      · rw [if_neg hr] at q; exact q.elim
    | exc c p M1 => rw [hq] at q; exact q
    | bad => rw [hq] at q; exact q
  refine rd_seqB hd sl q' fun x M1 J1 H1 v g1 hd1 sl1 r1 h1 => ?_
  by_cases hgd : good x.1 = true
  · rw [if_pos hgd] at h1
    refine ⟨h.ty J1 M1 H1 v x.1 hd1 r1 hgd, ?_⟩
    refine rdL_seq hd1 sl1 h1 fun ds M2 J2 H2 vs g2 hd2 sl2 r2 hn h2 => ?_
    obtain ⟨a', e', p⟩ := orBad_some h2 hd2
    obtain ⟨d, ed, rfl⟩ := Option.map_eq_some_iff.mp e'
    exact h.rd J2 M2 H2 v x.1 vs ds d Q hd2 (r1.go g2) hgd r2 ed (ans_of (M' := M2) (g1.trans g2) p)
  · rw [if_neg hgd] at h1; exact h1.elim
theorem tyV_str {J : Jt} {M : Mem} {H : Hp} {v : V} {d : D} (hd : Hold X.K X.w J M H) (r : RepB X.K X.w J H v d) (h : isS d = true) : tyW X.K "str" v H := by
  left
  cases d <;> simp [isS] at h
  rcases r with r | ⟨a, rfl, o, _, _, _, r⟩
  · cases r; rfl
  · cases r
theorem tyV_lst {J : Jt} {M : Mem} {H : Hp} {v : V} {d : D} (hd : Hold X.K X.w J M H) (r : RepB X.K X.w J H v d) (h : isLs d = true) : tyW X.K "list" v H := by
  left
  cases d <;> simp [isLs] at h
  rcases r with r | ⟨a, rfl, o, h1, _, _, r⟩
  · cases r with
    | lst j l => exact Or.inl ⟨rfl, _, hd.sqL j⟩
  · cases r with
    | lst l => exact Or.inl ⟨rfl, _, .inl (.inl h1)⟩
theorem RepL.one_inv {K : PySem.W.Frag} {w : World} {J : Jt} {vs : List V} {d : D} (h : RepL K w J vs [d]) : ∃ v, vs = [v] ∧ Rep K w J v d := by
  cases h with
  | cons h t => cases t; exact ⟨_, rfl, h⟩
theorem RepB.str_inv {J : Jt} {H : Hp} {v : V} {s : List Nat} (r : RepB X.K X.w J H v (.str s)) : v = .str (sOf s) ∧ s.length ≤ szLine ∧ ∀ c ∈ s, c < 1114112 := by
  rcases r with r | ⟨a, rfl, o, _, _, _, r⟩
  · cases r with
    | str _ h1 h2 => exact ⟨rfl, h1, h2⟩
  · cases r
theorem RepB.lst_inv {J : Jt} {M : Mem} {H : Hp} {v : V} {l : List D} (hd : Hold X.K X.w J M H) (r : RepB X.K X.w J H v (.lst l)) : ∃ p xs, v = .ref p ∧ SqL X.K H p xs ∧ RepL X.K X.w J xs l := by
  rcases r with r | ⟨a, rfl, o, h1, _, _, r⟩
  · cases r with
    | lst j l => exact ⟨_, _, rfl, hd.sqL j, l⟩
  · cases r with
    | lst l => exact ⟨_, _, rfl, .inl (.inl h1), l⟩
theorem app_le (ws : List (List Nat)) (c : Nat → Prop) (h : ∀ w ∈ ws, ∀ x ∈ w, c x) (sep : List Nat) (hs : ∀ x ∈ sep, c x) : ∀ x ∈ joinL sep ws, c x := by
  induction ws with
  | nil => intro x hx; simp [joinL] at hx
  | cons w ws ih =>
    cases ws with
    | nil => exact h w (by simp)
    | cons y r =>
      intro x hx
      have hx : x ∈ w ++ sep ++ joinL sep (y :: r) := hx
      rcases List.mem_append.mp hx with hx | hx
      · rcases List.mem_append.mp hx with hx | hx
        · exact h w (by simp) x hx
        · exact hs x hx
      · exact ih (fun w hw => h w (by simp [hw])) x hx
theorem joinL_len (sep : List Nat) : ∀ ws : List (List Nat), (joinL sep ws).length ≤ (ws.map (·.length)).sum + ws.length * sep.length
  | [] => Nat.zero_le _
  | [w] => by simp [joinL]
  | w :: y :: r => by
    have ih := joinL_len sep (y :: r)
    have e : joinL sep (w :: y :: r) = w ++ sep ++ joinL sep (y :: r) := rfl
    rw [e]
    simp only [List.length_append, List.map_cons, List.sum_cons, List.length_cons, Nat.succ_mul] at ih ⊢
    omega
theorem splitL_in (c : Nat) : ∀ (s : List Nat), ∀ w ∈ splitL c s, w.length ≤ s.length ∧ ∀ x ∈ w, x ∈ s
  | [], w, h => by
    simp [splitL] at h; subst h; simp
  | n :: s, w, h => by
    have ih := splitL_in c s
    unfold splitL at h
    split at h
    · rcases List.mem_cons.mp h with rfl | h
      · simp
      · obtain ⟨h1, h2⟩ := ih w h
        exact ⟨by simp; omega, fun x hx => List.mem_cons_of_mem _ (h2 x hx)⟩
    · split at h
      · rename_i w' ws e
        rw [e] at ih
        rcases List.mem_cons.mp h with rfl | h
        · obtain ⟨h1, h2⟩ := ih w' (by simp)
          refine ⟨by simp; omega, fun x hx => ?_⟩
          rcases List.mem_cons.mp hx with rfl | hx
          · simp
          · exact List.mem_cons_of_mem _ (h2 x hx)
        · obtain ⟨h1, h2⟩ := ih w (by simp [h])
          exact ⟨by simp; omega, fun x hx => List.mem_cons_of_mem _ (h2 x hx)⟩
      · have : w = [n] := by simpa using h
        subst this; simp
theorem findIx_some {y : D} : ∀ {l : List D} {n j : Nat}, findIx y l n = some j → n ≤ j ∧ ∃ z, l[j - n]? = some z ∧ eqD z y = true ∧ ∀ m z', m < j - n → l[m]? = some z' → eqD z' y = false
  | [], n, j, h => by simp [findIx] at h
  | a :: l, n, j, h => by
    unfold findIx at h
    cases e : eqD a y with
    | true =>
      rw [e] at h
      cases h
      refine ⟨Nat.le_refl _, a, by simp, e, fun m z' hm => absurd hm (by omega)⟩
    | false =>
      rw [e] at h
      obtain ⟨h1, z, h2, h3, h4⟩ := findIx_some (l := l) (n := n + 1) (by simpa using h)
      refine ⟨by omega, z, ?_, h3, fun m z' hm hz => ?_⟩
      · have : j - n = (j - (n + 1)) + 1 := by omega
        rw [this]; simpa using h2
      · cases m with
        | zero => simp at hz; subst hz; exact e
        | succ m => exact h4 m z' (by omega) (by simpa using hz)
theorem toPs_get : ∀ (l : List D) (j : Nat), (toPs l)[j]? = (l[j]?).map toP
  | [], j => by simp [toPs]
  | a :: l, 0 => by simp [toPs]
  | a :: l, j + 1 => by simpa [toPs] using toPs_get l j
theorem ok_count : MtOk X .count isS "str" (fun x xs H Q => ∃ a b, x = .str a ∧ xs = [.str b] ∧ Q (.int (Txt.count a b)) H) := by
  refine ⟨fun J M H v d hd r h => tyV_str hd r h, fun J M H v d vs ds a Q hd r h rl e q => ?_⟩
  cases d <;> simp [isS] at h
  rename_i s
  replace e : mCount (.str s) ds = some a := e
  unfold mCount at e
  split at e <;> first | (cases e; done) | skip
  · rename_i e1; cases e1; cases e
    obtain ⟨u, rfl, ru⟩ := rl.one_inv
    obtain ⟨rfl, h1, h2⟩ := r.str_inv
    cases ru with
    | str _ h3 h4 => exact ⟨_, _, rfl, rfl, by rw [count_eq]; exact q.sh hd (.int _)⟩
  · rename_i e1; cases e1
def rCntD (K : PySem.W.Frag) : V → List V → Hp → VK → Prop := fun x xs H Q => ∃ (a : Addr) (y : V) (d : PyData) (ds : List PyData), x = V.ref a ∧ xs = [y] ∧ Dp K H (V.ref a) (.list ds) ∧ Dp K H y d ∧
  SeqAt.shaped (.list ds) = true ∧ SeqAt.shaped d = true ∧ Q (.int (ds.countP fun z => PyData.eqv z d : Nat)) H
theorem mt_countD (hu : X.A.units + 65 < cLine) : MtR X "list.count" (rCntD X.K) := by
  intro pins s σ H x xs v us Q I rx rxs h
  obtain ⟨a, y, d, ds, rfl, rfl, hl, hy, sl, sd, q⟩ := h
  cases rx
  cases rxs with
  | cons ry rt =>
    rename_i uy ut
    cases rt
    obtain ⟨bs, r1⟩ := Dp.reads I d y uy hy ry
    have hxs : PyData.canLayAll0 ds = true := SeqAt.canLay_of_shaped sl
    have hroom : X.A.units + 1 + min (PyData.depthAll ds) d.depth < cLine := room_in_shaped sd hu
    cases hl with
    | lst hs ha =>
      obtain ⟨its, rv, ⟨⟨cls, dd, data, sls⟩, n, ho, hc, hdn, hdt⟩, hlen⟩ := I.list hs
      simp only at hc hdt
      subst hc hdt
      obtain ⟨as, h4⟩ := Dp.readsAll I ds _ its ha rv
      have hmap : its.map (SeqAt.readOf s.heap) = ds := SeqAt.readsAll_map ds its as hxs h4
      refine call_meets PySem.F.slot_list_count ⟨_, ho, rfl⟩ PySem.F.entry_list_count (PySem.F.args_list_count_2 _ _)
        (SeqAt.list_countAt a its.toArray n dd sls uy (fun u => PyData.eqv (SeqAt.readOf s.heap u) d)) ⟨ho, SeqAt.items_eqAt (vs := its.toArray) (show ReadsAll s.heap its.toArray.toList ds as from h4) r1 hxs (SeqAt.canLay_of_shaped sd) hroom, ?_⟩
      refine ⟨.int (ds.countP fun z => PyData.eqv z d : Nat), H, I.tok _, ⟨s.toks, ?_⟩, q⟩
      rw [← hmap, List.countP_map]
      rfl
theorem toPs_countP (y : D) (hy : shp 15 y = true) : ∀ l : List D, l.all (shp 15) = true → (toPs l).countP (fun z => PyData.eqv z (toP y)) = l.countP fun z => eqD z y
  | [], _ => rfl
  | d :: l, h => by
    rw [List.all_cons, Bool.and_eq_true] at h
    have ih := toPs_countP y hy l h.2
    show List.countP _ (toP d :: toPs l) = _
    rw [List.countP_cons, List.countP_cons, ih, eqv_eqD 15 d y h.1 hy]
theorem ok_countL (hu : X.A.units + 66 < cLine) : MtOk X .count isLs "list" (rCntD X.K) := by
  refine ⟨fun J M H v d hd r h => tyV_lst hd r h, fun J M H v d vs ds a Q hd r h rl e q => ?_⟩
  cases d <;> simp [isLs] at h
  rename_i l
  replace e : mCount (.lst l) ds = some a := e
  unfold mCount at e
  split at e <;> first | (cases e; done) | skip
  · rename_i e1; cases e1
  · rename_i l' y e1; cases e1
    split at e
    · rename_i hs
      simp only [Bool.and_eq_true] at hs
      cases e
      obtain ⟨u, rfl, ru⟩ := rl.one_inv
      have hsl : shp 16 (.lst l) = true := by simp only [shp]; exact hs.2
      obtain ⟨d1, d2⟩ := r.dp hd hsl (Nat.le_refl _)
      obtain ⟨d3, d4⟩ := (RepB.dp hd (.inl ru) hs.1 (by omega) : _)
      have hv : ∃ p, v = V.ref p := by
        obtain ⟨p, _, e, _⟩ := r.lst_inv hd
        exact ⟨p, e⟩
      obtain ⟨p, rfl⟩ := hv
      refine ⟨p, u, toP y, toPs l, rfl, rfl, d1, d3, d2, d4, ?_⟩
      rw [toPs_countP y hs.1 l hs.2]
      exact q.sh hd (.int _)
    · cases e
theorem ok_join : MtOk X .join isS "str" (fun x xs H Q => ∃ a p, ∃ ys : List Str, x = .str a ∧ xs = [.ref p] ∧ (SqL X.K H p (ys.map V.str) ∨ SqT X.K H p (ys.map V.str)) ∧ (ys.map (·.length)).sum + ys.length * a.length ≤ 16777216 ∧ Q (.str (Txt.join a ys)) H) := by
  refine ⟨fun J M H v d hd r h => tyV_str hd r h, fun J M H v d vs ds a Q hd r h rl e q => ?_⟩
  cases d <;> simp [isS] at h
  rename_i s
  replace e : mJoin (.str s) ds = some a := e
  have fin : ∀ {l : List D} {ws : List (List Nat)} {xs : List V} {p : Addr}, mapO unStr l = some ws → RepL X.K X.w J xs l → (if (ws.map (·.length)).sum + ws.length * s.length ≤ szLine then some (D.str (joinL s ws)) else none) = some a → (SqL X.K H p xs ∨ SqT X.K H p xs) →
      ∃ a p', ∃ ys : List Str, v = .str a ∧ [V.ref p] = [.ref p'] ∧ (SqL X.K H p' (ys.map V.str) ∨ SqT X.K H p' (ys.map V.str)) ∧ (ys.map (·.length)).sum + ys.length * a.length ≤ 16777216 ∧ Q (.str (Txt.join a ys)) H := by
    intro l ws xs p hw hl e hq
    split at e
    · rename_i hz
      cases e
      obtain ⟨rfl, h1, h2⟩ := r.str_inv
      rw [mapO_strs hw] at hl
      obtain ⟨ex, hws⟩ := hl.strs
      have em : xs = (ws.map sOf).map V.str := by rw [ex]; simp
      rw [em] at hq
      refine ⟨_, _, ws.map sOf, rfl, rfl, hq, ?_, ?_⟩
      · rw [List.map_map, List.length_map, sOf_len]
        have : (List.length ∘ id : List Nat → Nat) = List.length := rfl
        have e2 : (fun x : Str => x.length) ∘ sOf = fun x : List Nat => x.length := by funext x; exact sOf_len x
        rw [e2]; exact hz
      · rw [join_eq]
        refine q.sh hd (.str _ (Nat.le_trans (joinL_len s ws) hz) (app_le ws (· < 1114112) (fun w hw => (hws w hw).2) s h2))
    · cases e
  unfold mJoin at e
  split at e <;> first | (cases e; done) | skip
  · rename_i e1; cases e1
    obtain ⟨ws, hw, e⟩ := Option.bind_eq_some_iff.mp e
    obtain ⟨u, rfl, ru⟩ := rl.one_inv
    cases ru with
    | lst j l => exact fin hw l e (.inl (hd.sqL j))
  · rename_i e1; cases e1
    obtain ⟨ws, hw, e⟩ := Option.bind_eq_some_iff.mp e
    obtain ⟨u, rfl, ru⟩ := rl.one_inv
    cases ru with
    | tup j l => exact fin hw l e (.inr (hd.sqT j))
theorem ok_split : MtOk X .split isS "str" (fun x xs H Q => ∃ a b, x = .str a ∧ xs = [.str b] ∧ (b.length == 0) = false ∧ a.length + 2 ≤ sizeLine ∧ rNewStrs (Txt.split a b) H Q) := by
  refine ⟨fun J M H v d hd r h => tyV_str hd r h, fun J M H v d vs ds a Q hd r h rl e q => ?_⟩
  cases d <;> simp [isS] at h
  rename_i s
  replace e : mSplit (.str s) ds = some a := e
  unfold mSplit at e
  split at e <;> first | (cases e; done) | skip
  · rename_i e1; cases e1
    split at e
    · rename_i hz
      cases e
      obtain ⟨u, rfl, ru⟩ := rl.one_inv
      obtain ⟨rfl, h1, h2⟩ := r.str_inv
      cases ru with
      | str _ h3 h4 =>
        rename_i c
        refine ⟨_, _, rfl, rfl, rfl, by rw [sOf_len, ← szLine_eq]; exact hz, ?_⟩
        rw [split_eq]
        have hr : RepL X.K X.w J ((splitL c s).map fun s => V.str (sOf s)) ((splitL c s).map .str) := RepL.ofStrs fun w hw => by
          obtain ⟨q1, q2⟩ := splitL_in c s w hw
          exact ⟨by omega, fun x hx => h2 x (q2 x hx)⟩
        have := Ans.lst q hd hr
        intro p hp
        rw [List.map_map]
        exact this p hp
    · cases e
theorem ok_indexL (hu : X.A.units + 66 < cLine) : MtOk X .index isLs "list" (rIndexD X.K) := by
  refine ⟨fun J M H v d hd r h => tyV_lst hd r h, fun J M H v d vs ds a Q hd r h rl e q => ?_⟩
  cases d <;> simp [isLs] at h
  rename_i l
  replace e : mIndex (.lst l) ds = some a := e
  unfold mIndex at e
  split at e <;> first | (cases e; done) | skip
  · rename_i l' y e1; cases e1
    split at e
    · rename_i hs
      simp only [Bool.and_eq_true] at hs
      obtain ⟨j, hj, e⟩ := Option.map_eq_some_iff.mp e
      subst e
      obtain ⟨u, rfl, ru⟩ := rl.one_inv
      obtain ⟨_, z, hz, hzj, hno⟩ := findIx_some hj
      have hsl : shp 16 (.lst l) = true := by simp only [shp]; exact hs.2
      obtain ⟨d1, d2⟩ := r.dp hd hsl (Nat.le_refl _)
      obtain ⟨d3, d4⟩ := (RepB.dp hd (.inl ru) hs.1 (by omega) : _)
      have hv : ∃ p, v = V.ref p := by
        obtain ⟨p, _, e, _⟩ := r.lst_inv hd
        exact ⟨p, e⟩
      obtain ⟨p, rfl⟩ := hv
      refine ⟨p, u, toP y, toPs l, j, toP z, rfl, rfl, d1, d3, d2, d4, ?_, ?_, fun m z' hm hz' => ?_, q.sh hd (.int _)⟩
      · rw [toPs_get, show j = j - 0 from rfl, hz]; rfl
      · rw [eqv_eqD 15 z y (List.all_eq_true.mp hs.2 z (List.mem_of_getElem? hz)) hs.1]; exact hzj
      · rw [toPs_get] at hz'
        obtain ⟨z2, h2, rfl⟩ := Option.map_eq_some_iff.mp hz'
        rw [eqv_eqD 15 z2 y (List.all_eq_true.mp hs.2 z2 (List.mem_of_getElem? h2)) hs.1]
        exact hno m z2 (by omega) h2
    · cases e
  · rename_i e1; cases e1
  · rename_i e1; cases e1
theorem tyV_tup {J : Jt} {M : Mem} {H : Hp} {v : V} {d : D} (hd : Hold X.K X.w J M H) (r : RepB X.K X.w J H v d) (h : isTu d = true) : tyW X.K "tuple" v H := by
  cases d <;> simp [isTu] at h
  rcases r with r | ⟨a, rfl, o, h1, _, _, r⟩
  · cases r with
    | tup j l =>
      rcases j with ⟨o, j, ho⟩ | ⟨o, its, n, h1, h2, h3, _⟩
      · exact .inr ⟨rfl, _, o, _, rfl, hd.I _ _ j, ho⟩
      · exact .inl (.inr (.inl ⟨rfl, o, h1, h2, h3⟩))
  · cases r
theorem ok_indexT (hu : X.A.units + 66 < cLine) : MtOk X .index isTu "tuple" (rIndexT X.K) := by
  refine ⟨fun J M H v d hd r h => tyV_tup hd r h, fun J M H v d vs ds a Q hd r h rl e q => ?_⟩
  cases d <;> simp [isTu] at h
  rename_i l
  replace e : mIndex (.tup l) ds = some a := e
  unfold mIndex at e
  split at e <;> first | (cases e; done) | skip
  · rename_i e1; cases e1
  · rename_i l' y e1; cases e1
    split at e
    · rename_i hs
      simp only [Bool.and_eq_true] at hs
      obtain ⟨j, hj, e⟩ := Option.map_eq_some_iff.mp e
      subst e
      obtain ⟨u, rfl, ru⟩ := rl.one_inv
      obtain ⟨_, z, hz, hzj, hno⟩ := findIx_some hj
      have hsl : shp 16 (.tup l) = true := by simp only [shp]; exact hs.2
      obtain ⟨d1, d2⟩ := r.dp hd hsl (Nat.le_refl _)
      obtain ⟨d3, d4⟩ := (RepB.dp hd (.inl ru) hs.1 (by omega) : _)
      have hv : ∃ p, v = V.ref p := by
        rcases r with r | ⟨a, rfl, o, h1, _, _, r⟩
        · cases r; exact ⟨_, rfl⟩
        · exact ⟨_, rfl⟩
      obtain ⟨p, rfl⟩ := hv
      refine ⟨p, u, toP y, toPs l, j, toP z, rfl, rfl, d1, d3, d2, d4, ?_, ?_, fun m z' hm hz' => ?_, q.sh hd (.int _)⟩
      · rw [toPs_get, show j = j - 0 from rfl, hz]; rfl
      · rw [eqv_eqD 15 z y (List.all_eq_true.mp hs.2 z (List.mem_of_getElem? hz)) hs.1]; exact hzj
      · rw [toPs_get] at hz'
        obtain ⟨z2, h2, rfl⟩ := Option.map_eq_some_iff.mp hz'
        rw [eqv_eqD 15 z2 y (List.all_eq_true.mp hs.2 z2 (List.mem_of_getElem? h2)) hs.1]
        exact hno m z2 (by omega) h2
    · cases e
  · rename_i e1; cases e1
theorem ok_indexS : MtOk X .index isS "str" (fun x xs H Q => ∃ a b i rest, x = .str a ∧ xs = [.str b] ∧ Builtin.Str.occurrences a b 0 a.length 1 = i :: rest ∧ Q (.int (i : Nat)) H) := by
  refine ⟨fun J M H v d hd r h => tyV_str hd r h, fun J M H v d vs ds a Q hd r h rl e q => ?_⟩
  cases d <;> simp [isS] at h
  rename_i s
  replace e : mIndex (.str s) ds = some a := e
  unfold mIndex at e
  split at e <;> first | (cases e; done) | skip
  · rename_i e1; cases e1
  · rename_i e1; cases e1
  · rename_i e1; cases e1
    split at e
    · rename_i hc
      cases e
      obtain ⟨u, rfl, ru⟩ := rl.one_inv
      obtain ⟨rfl, h1, h2⟩ := r.str_inv
      cases ru with
      | str _ h3 h4 => exact ⟨_, _, _, _, rfl, rfl, occ1_eq _ _ hc, q.sh hd (.int _)⟩
    · cases e
theorem noSup_base {r : Expr} (h : noSup r = true) (m : Str) (env : PySem.Env) (x : Sem Value) : attributeBase r m env x = x := by
  unfold attributeBase
  split
  · rename_i id p pos
    have h : (id != "super") = true := h
    rw [h]
    rfl
  · rfl
theorem NoStar.few {es : List Expr} (h : NoStar es) (hl : es.length < 30) (cpos : Pos) (env : PySem.Env) : ((backTo cpos (starEach es env)).all (fun x => !x.1) && (backToKw cpos (keywordEach [] env)).all (fun x => x.1.isSome)
      && decide (es.length + ([] : List Keyword).length + (if ([] : List Keyword).isEmpty then 0 else 1) < 30)) = true := by
  have h1 := h.back cpos env
  have h2 : (backTo cpos (starEach es env)).all (fun x => !x.1) = true := by
    rw [List.all_eq_true]
    intro x hx
    have := List.any_eq_false.mp h1 x hx
    simpa using this
  rw [h2]
  simp only [Bool.true_and, Bool.and_eq_true, decide_eq_true_eq]
  exact ⟨rfl, by simpa using hl⟩
theorem e_mth {mt : Mt} {m : Str} {o a : Expr} {es : List Expr} {co : C} {cs : List C} {ap cp : Pos} (ok : XOk S Y ER k W X) (hm : mtOf m = some mt) (hr : mtRd mt = true) (hs : noSup o = true) (hl : (ap.endLine == cp.line) = true) (ho : PE X o (rdB Y ER W X co)) (ha : PA X (a :: es) (rdL Y ER W X cs)) (ns : NoStar (a :: es)) (hn : es.length ≤ 5) :
    PE X (.Call (.Attribute o m ap) (a :: es) [] cp) (rdE Y ER W X (.mth mt co cs)) := by
  have hu : X.A.units + 66 < cLine := by have := ok.room.un; omega
  have nm : (m = "count" ∧ mt = .count) ∨ (m = "join" ∧ mt = .join) ∨ (m = "index" ∧ mt = .index) ∨ (m = "split" ∧ mt = .split) := by
    unfold mtOf at hm
    by_cases h1 : (m == "count") = true
    · rw [if_pos h1] at hm; cases hm; exact .inl ⟨eq_of_beq h1, rfl⟩
    rw [if_neg h1] at hm
    by_cases h2 : (m == "join") = true
    · rw [if_pos h2] at hm; cases hm; exact .inr (.inl ⟨eq_of_beq h2, rfl⟩)
    rw [if_neg h2] at hm
    by_cases h3 : (m == "index") = true
    · rw [if_pos h3] at hm; cases hm; exact .inr (.inr (.inl ⟨eq_of_beq h3, rfl⟩))
    rw [if_neg h3] at hm
    by_cases h4 : (m == "split") = true
    · rw [if_pos h4] at hm; cases hm; exact .inr (.inr (.inr ⟨eq_of_beq h4, rfl⟩))
    rw [if_neg h4] at hm
    by_cases h5 : (m == "upper") = true
    · rw [if_pos h5] at hm; cases hm; cases hr
    rw [if_neg h5] at hm
    by_cases h6 : (m == "get") = true
    · rw [if_pos h6] at hm; cases hm; cases hr
    rw [if_neg h6] at hm
    cases hm
  have one : ∀ {good : D → Bool} {T id : String} {rr : V → List V → Hp → VK → Prop}, MtOk X mt good T rr → PlainAttrs T → Slot T m id → typeOf (.builtin id) = pure (.type "method_descriptor") → MtR X id rr →
      ∀ (pins : List (Addr × Obj)) (s : Shared) (σ : L2.St) (H : Hp) (Q : VK), Inv X pins σ H s → (∃ J M e, Hold X.K X.w J M H ∧ Slots X.K X.w J H σ e ∧ (ResG X ER W σ J H (den Y (.mth mt co cs) e M) fun x _ J' H' => ∀ v, RepO X.K X.w J' H H' v x.1 x.2 → Q v H') ∧ ∀ x M1, den Y co e M = .ok x M1 → good x.1 = true) →
      wpAny (model X.prog X.w) X.A (eval (.Call (.Attribute o m ap) (a :: es) [] cp) X.env) (EP X pins σ Q) X.xe s := by
    intro good T id rr h1 h2 h3 h4 h5 pins s σ H Q I h
    obtain ⟨J, M, e, hd, sl, q, hg⟩ := h
    exact (pe_bmW h2 h3 h4 h5 ho ha (noSup_base hs _ _ _) (ns.few (by simp; omega) _ _) hl (ns.head _) (ns.tail.back _ _)).run pins s σ H Q I (mth_read h1 hd sl q hg)
  refine ⟨fun pins s σ H Q I h => ?_⟩
  obtain ⟨J, M, e, hd, sl, q⟩ := h
  have dead : ∀ {x : D × Bool} {M1 : Mem}, den Y co e M = .ok x M1 → rcv mt x.1 = false → False := by
    intro x M1 hq hx
    rw [show den Y (.mth mt co cs) e = MM.bind (den Y co e) fun x => if rcv mt x.1 then MM.bind (denL Y cs e) fun ds => orBad ((mthO mt x.1 ds).map fun d => (d, match d with | .lst _ => true | _ => false)) else MP.bad from rfl] at q
    unfold MM.bind at q
    rw [hq] at q
    dsimp only at q
    rw [if_neg (by rw [hx]; exact Bool.false_ne_true)] at q
    exact q
  -- the receiver's kind
  have kind : (∀ x M1, den Y co e M = .ok x M1 → isS x.1 = true) ∨ ((mt = .count ∨ mt = .index) ∧ ∀ x M1, den Y co e M = .ok x M1 → isLs x.1 = true) ∨ (mt = .index ∧ ∀ x M1, den Y co e M = .ok x M1 → isTu x.1 = true) := by
    cases hq : den Y co e M with
    | exc c p M1 => exact .inl fun y M2 hy => nomatch hy
    | bad => exact .inl fun y M2 hy => nomatch hy
    | ok x M1 =>
      obtain ⟨d, o⟩ := x
      have hr2 : rcv mt d = true := by
        cases hx : rcv mt d with
        | true => rfl
        | false => exact (dead hq hx).elim
      rcases nm with ⟨_, rfl⟩ | ⟨_, rfl⟩ | ⟨_, rfl⟩ | ⟨_, rfl⟩
      all_goals cases d <;> first
        | (simp [rcv] at hr2; done)
        | (refine .inl fun y M2 hy => ?_; cases hy; rfl)
        | (refine .inr (.inl ⟨by first | exact .inl rfl | exact .inr rfl, fun y M2 hy => ?_⟩); cases hy; rfl)
        | (refine .inr (.inr ⟨rfl, fun y M2 hy => ?_⟩); cases hy; rfl)
  rcases nm with ⟨rfl, rfl⟩ | ⟨rfl, rfl⟩ | ⟨rfl, rfl⟩ | ⟨rfl, rfl⟩
  · rcases kind with kd | ⟨_, kd⟩ | ⟨kx, _⟩
    · exact one ok_count PySem.F.plainAttrs_str PySem.F.slot_str_count PySem.F.type_str_count mt_count pins s σ H Q I ⟨J, M, e, hd, sl, q, kd⟩
    · exact one (ok_countL hu) PySem.F.plainAttrs_list PySem.F.slot_list_count PySem.F.type_list_count (mt_countD (by omega)) pins s σ H Q I ⟨J, M, e, hd, sl, q, kd⟩
    · cases kx
  · rcases kind with kd | ⟨kx, _⟩ | ⟨kx, _⟩
    · exact one ok_join PySem.F.plainAttrs_str PySem.F.slot_str_join PySem.F.type_str_join mt_join pins s σ H Q I ⟨J, M, e, hd, sl, q, kd⟩
    · rcases kx with kx | kx <;> cases kx
    · cases kx
  · rcases kind with kd | ⟨_, kd⟩ | ⟨_, kd⟩
    · exact one ok_indexS PySem.F.plainAttrs_str PySem.F.slot_str_index PySem.F.type_str_index mt_sindex pins s σ H Q I ⟨J, M, e, hd, sl, q, kd⟩
    · exact one (ok_indexL hu) PySem.F.plainAttrs_list PySem.F.slot_list_index PySem.F.type_list_index (mt_indexD (by omega)) pins s σ H Q I ⟨J, M, e, hd, sl, q, kd⟩
    · exact one (ok_indexT hu) PySem.F.plainAttrs_tuple PySem.F.slot_tuple_index PySem.F.type_tuple_index (mt_indexT (by omega)) pins s σ H Q I ⟨J, M, e, hd, sl, q, kd⟩
  · rcases kind with kd | ⟨kx, _⟩ | ⟨kx, _⟩
    · exact one ok_split PySem.F.plainAttrs_str PySem.F.slot_str_split PySem.F.type_str_split mt_split pins s σ H Q I ⟨J, M, e, hd, sl, q, kd⟩
    · rcases kx with kx | kx <;> cases kx
    · cases kx
end
end MP
end

section
set_option linter.all false
set_option Elab.async false
set_option maxRecDepth 100000
set_option maxHeartbeats 4000000
namespace MP
open PySem PySem.Spec PyProof.Rows L2
/-! methods and properties of own classes: by their defs' promises -/
theorem kw_zip {pos : Pos} : ∀ (l : List Str) (ts : List (Sem Value)), ts.length = l.length → (backToKw pos (l.zipWith (fun x t => (some x, t)) ts)).filterMap (·.1) = l ∧ (backToKw pos (l.zipWith (fun x t => (some x, t)) ts)).all (·.1.isSome) = true ∧ (backToKw pos (l.zipWith (fun x t => (some x, t)) ts)).any (·.1.isNone) = false
  | [], ts, _ => by simp [backToKw]
  | x :: l, [], h => by simp at h
  | x :: l, t :: ts, h => by
    obtain ⟨h1, h2, h3⟩ := kw_zip (pos := pos) l ts (by simpa using h)
    exact ⟨by simpa [backToKw] using h1, by simpa [backToKw] using h2, by simpa [backToKw] using h3⟩
theorem mcall_of {prog : Program} {w : World} {A : Around} {E : Value → Shared → Prop} {s : Shared} {Q : Value → Shared → Prop} {env : PySem.Env} {o : Expr} {m : Str} {ap cp : Pos} {es : List Expr} {kws : List Keyword} (hs : noSup o = true) (hl : (ap.endLine == cp.line) = true)
    (few : methodCallForm (es.length + kws.length) (backTo cp (starEach es env)) (backToKw cp (keywordEach kws env)) = true)
    (h : wpAny (model prog w) A (eval o env) (fun ov s₁ => ∀ pl, wpAny (model prog w) A (getMethod ov m pl) (fun fx s₂ => wpAny (model prog w) A (callWith cp fx.1 fx.2 (backTo cp (starEach es env)) (backToKw cp (keywordEach kws env))) Q E s₂) E s₁) E s) :
    wpAny (model prog w) A (eval (.Call (.Attribute o m ap) es kws cp) env) Q E s := by
  rw [arm_eval_Call, noSup_base hs]
  refine wpAny_bind (wpAny_mono h (fun ov s₁ h₁ => wpAny_bind (wpAny_standAt ?_)) fun _ _ e => e)
  have hpos : methodCallPos true o env ap cp = pure cp := by unfold methodCallPos; simp [hl]
  unfold methodCall
  rw [few]
  refine wpAny_bind (wpAny_holding (wpAny_mono (h₁ _) (fun fx s₂ h₂ => ?_) fun _ _ e => e))
  exact wpAny_bind (wpAny_of_eq hpos h₂)
section
variable {S : Cs} {Y : Ctx} {ER : ExR} {k : Nat} {W : WX} {X : Cx}
theorem few_of {es : List Expr} {kws : List Keyword} {kvs : List (Str × C)} (ns : NoStar es) (hks : ∀ env, ∃ ts, keywordEach kws env = (kvs.map (·.1)).zipWith (fun x t => (some x, t)) ts ∧ ts.length = kvs.length) (hn : es.length + kws.length ≤ 5) (cp : Pos) (env : PySem.Env) :
    methodCallForm (es.length + kws.length) (backTo cp (starEach es env)) (backToKw cp (keywordEach kws env)) = true := by
  unfold methodCallForm
  obtain ⟨ts, e1, e2⟩ := hks env
  obtain ⟨_, z2, _⟩ := kw_zip (pos := cp) (kvs.map (·.1)) ts (by rw [e2, List.length_map])
  rw [← e1] at z2
  have h1 := ns.back cp env
  have h2 : (backTo cp (starEach es env)).all (fun x => !x.1) = true := by
    rw [List.all_eq_true]
    intro x hx
    have := List.any_eq_false.mp h1 x hx
    simpa using this
  simp only [Bool.and_eq_true, decide_eq_true_eq]
  refine ⟨⟨h2, z2⟩, ?_⟩
  split <;> omega
/-- the arguments of a call, from the left, then the call -/
theorem cw_args {P : Heap → Prop} {pins : List (Addr × Obj)} {σ : L2.St} {H : Hp} {s : Shared} {f : Value} {first : List Value} {es : List Expr} {kws : List Keyword} {cs : List C} {kvs : List (Str × C)} {pos : Pos} {J : Jt} {M : Mem} {e : MP.Env} {g : List D → MM (D × Bool)} {Q : VK} {post : D × Bool → Mem → Jt → Hp → Prop}
    (hkeep : ∀ h, P h → ∃ k, (k = Keeper.frame ∨ k = Keeper.machine ∨ k = Keeper.boundFrame) ∧ PySem.W.Looks (model X.prog X.w) h (keeperOf f) k) (hP : ∀ (H : Hp) (s : Shared), L2.Inv X pins σ H s → P s.heap)
    (he : PA X es (rdL Y ER W X cs)) (ns : NoStar es) (hcs : cs.length = es.length) (hk : PK X kws (rdL Y ER W X (kvs.map (·.2)))) (hks : ∀ env, ∃ ts, keywordEach kws env = (kvs.map (·.1)).zipWith (fun x t => (some x, t)) ts ∧ ts.length = kvs.length)
    (I : L2.Inv X pins σ H s) (hd : Hold X.K X.w J M H) (sl : Slots X.K X.w J H σ e) (h : ResG X ER W σ J H (MM.bind (denL Y (cs ++ kvs.map (·.2)) e) g M) post)
    (kk : ∀ (us ws : List Value) (vs : List V) (ds : List D) (s1 : Shared) (H1 : Hp) (J1 : Jt) (M1 : Mem), L2.Inv X pins σ H1 s1 → Vals vs (us ++ ws) → us.length = es.length → ws.length = kvs.length → Go J H J1 H1 → Hold X.K X.w J1 M1 H1 → RepL X.K X.w J1 vs ds → ResG X ER W σ J1 H1 (g ds M1) post →
      wpAny (model X.prog X.w) X.A (call f (first ++ us) ((kvs.map (·.1)).zip ws)) (EP X pins σ Q) X.xe s1) :
    wpAny (model X.prog X.w) X.A (callWith pos f first (backTo pos (starEach es X.env)) (backToKw pos (keywordEach kws X.env))) (EP X pins σ Q) X.xe s := by
  have h' : ResG X ER W σ J H (MM.bind (denL Y cs e) (fun x => MM.bind (denL Y (kvs.map (·.2)) e) fun y => g (x ++ y)) M) post := by
    rw [denL_app] at h
    have e2 : ∀ M, MM.bind (MM.bind (denL Y cs e) fun x => MM.bind (denL Y (kvs.map (·.2)) e) fun y => MM.pure (x ++ y)) g M = MM.bind (denL Y cs e) (fun x => MM.bind (denL Y (kvs.map (·.2)) e) fun y => g (x ++ y)) M := by
      intro M
      unfold MM.bind MM.pure
      cases denL Y cs e M with
      | ok x M1 =>
        dsimp only
        cases denL Y (kvs.map (·.2)) e M1 <;> rfl
      | exc _ _ _ => rfl
      | bad => rfl
    rw [e2] at h
    exact h
  obtain ⟨ts, hts, htl⟩ := hks X.env
  obtain ⟨z1, z2, z3⟩ := kw_zip (pos := pos) (kvs.map (·.1)) ts (by rw [htl, List.length_map])
  rw [← hts] at z1 z2 z3
  have last : ∀ (us : List Value) (vs : List V) (ds : List D) (s1 : Shared) (H1 : Hp) (J1 : Jt) (M1 : Mem), L2.Inv X pins σ H1 s1 → Vals vs us → Go J H J1 H1 → Hold X.K X.w J1 M1 H1 → Slots X.K X.w J1 H1 σ e → RepL X.K X.w J1 vs ds → ds.length = cs.length →
      ResG X ER W σ J1 H1 (MM.bind (denL Y (kvs.map (·.2)) e) (fun y => g (ds ++ y)) M1) post →
      wpAny (model X.prog X.w) X.A (evalAll ((backToKw pos (keywordEach kws X.env)).map (·.2))) (fun ks s₂ => P s₂.heap ∧ wpAny (model X.prog X.w) X.A (call f (first ++ us) (((backToKw pos (keywordEach kws X.env)).filterMap (·.1)).zip ks)) (EP X pins σ Q) X.xe s₂) X.xe s1 := by
    intro us vs ds s1 H1 J1 M1 I1 rv g1 hd1 sl1 rl hn h1
    refine thn (hk.run pos pins s1 σ H1 (fun zs H2 => ∃ J2 M2 ds2, Go J1 H1 J2 H2 ∧ Hold X.K X.w J2 M2 H2 ∧ RepL X.K X.w J2 zs ds2 ∧ ds2.length = (kvs.map (·.2)).length ∧ ResG X ER W σ J2 H2 (g (ds ++ ds2) M2) post) I1
      (rdL_seq hd1 sl1 h1 fun ds2 M2 J2 H2 zs g2 hd2 sl2 r2 hn2 h2 => ⟨J2, M2, ds2, g2, hd2, r2, hn2, h2⟩)) fun ws s2 ⟨zs, H2, I2, rz, J2, M2, ds2, g2, hd2, rl2, hn2, h2⟩ => ⟨hP H2 s2 I2, ?_⟩
    rw [z1]
    exact kk us ws (vs ++ zs) (ds ++ ds2) s2 H2 J2 M2 I2 (rv.append rz) (by rw [← rv.length, rl.len, hn, hcs]) (by rw [← rz.length, rl2.len, hn2]; simp) (g1.trans g2) hd2 ((rl.ext g2.ext).app rl2) h2
  cases es with
  | nil =>
    have hc : cs = [] := List.length_eq_zero_iff.mp hcs
    subst hc
    cases kws with
    | nil =>
      have hkv : kvs = [] := by
        have h1 : ([] : List (Option Str × Sem Value)) = (kvs.map (·.1)).zipWith (fun x t => (some x, t)) ts := hts
        have h2 := congrArg List.length h1
        rw [List.length_zipWith, htl, List.length_map, Nat.min_self] at h2
        exact List.length_eq_zero_iff.mp h2.symm
      subst hkv
      refine PySem.W.callWith_of (P := P) rfl hkeep (PyProof.Rows.evalArgs_nil3 ⟨hP H s I, ?_⟩)
      exact kk [] [] [] [] s H J M I .nil rfl rfl (.refl _ _) hd .nil h'
    | cons kw0 kws =>
      refine PySem.W.callWith_of (P := P) (by rw [show backTo pos (starEach [] X.env) = [] from rfl]; simpa using z3) hkeep (PyProof.Rows.evalArgs_kw2_nil z2 ?_)
      exact last [] [] [] s H J M I .nil (.refl _ _) hd sl .nil rfl h'
  | cons a r =>
    have goal : wpAny (model X.prog X.w) X.A (spliced (backTo pos (starEach (a :: r) X.env))) (fun vs s₁ => wpAny (model X.prog X.w) X.A (evalAll ((backToKw pos (keywordEach kws X.env)).map (·.2)))
      (fun ks s₂ => P s₂.heap ∧ wpAny (model X.prog X.w) X.A (call f (first ++ vs) (((backToKw pos (keywordEach kws X.env)).filterMap (·.1)).zip ks)) (EP X pins σ Q) X.xe s₂) X.xe s₁) X.xe s := by
      refine thn (he.run pos pins s σ H (fun vs H1 => ∃ J1 M1 ds, Go J H J1 H1 ∧ Hold X.K X.w J1 M1 H1 ∧ Slots X.K X.w J1 H1 σ e ∧ RepL X.K X.w J1 vs ds ∧ ds.length = cs.length ∧ ResG X ER W σ J1 H1 (MM.bind (denL Y (kvs.map (·.2)) e) (fun y => g (ds ++ y)) M1) post) I
        (rdL_seq hd sl h' fun ds M1 J1 H1 vs g1 hd1 sl1 r1 hn h1 => ⟨J1, M1, ds, g1, hd1, sl1, r1, hn, h1⟩)) fun us s1 ⟨vs, H1, I1, r1, J1, M1, ds, g1, hd1, sl1, rl, hn, h1⟩ => ?_
      exact last us vs ds s1 H1 J1 M1 I1 r1 g1 hd1 sl1 rl hn h1
    exact PySem.W.callWith_of (P := P) (by rw [ns.back, z3]; rfl) hkeep (PyProof.Rows.evalArgs_kw2 z2 goal (ns.head _))
end
end MP
end

section
set_option linter.all false
set_option Elab.async false
set_option maxRecDepth 100000
set_option maxHeartbeats 4000000
namespace MP
open PySem PySem.Spec PyProof.Rows L2
/-! members of own classes -/
theorem mapO_map {α β γ : Type} {f : β → Option γ} {g : α → β} : ∀ (l : List α), mapO f (l.map g) = mapO (fun a => f (g a)) l
  | [] => rfl
  | a :: l => by simp only [List.map_cons, mapO, mapO_map l]
theorem mapO_cons {α β : Type} (f : α → Option β) (a : α) (l : List α) : mapO f (a :: l) = (match f a, mapO f l with
    | some b, some bs => some (b :: bs)
    | _, _ => none) := rfl
theorem mapO_post {α β γ : Type} {f : α → Option β} {g : β → γ} : ∀ {l : List α} {r : List β}, mapO f l = some r → mapO (fun a => (f a).map g) l = some (r.map g)
  | [], r, h => by simp [mapO] at h; subst h; rfl
  | a :: l, r, h => by
    unfold mapO at h
    cases e : f a with
    | none => simp [e] at h
    | some b =>
      cases e2 : mapO f l with
      | none => simp [e, e2] at h
      | some bs =>
        simp [e, e2] at h; subst h
        simp [mapO, e, mapO_post e2]
theorem permOf_cons {ks ps : List Str} {p0 : Str} {n : Nat} {pm : List Nat} (h : permOf ks n ps = some pm) : permOf ks (n + 1) (p0 :: ps) = some (0 :: pm.map (· + 1)) := by
  unfold permOf at h ⊢
  rw [List.length_cons, List.range_succ_eq_map, List.zip_cons_cons]
  have e : ∀ (l : List Str) (r : List Nat), l.zip (r.map Nat.succ) = (l.zip r).map fun p => (p.1, p.2 + 1) := by
    intro l
    induction l with
    | nil => intro r; rfl
    | cons x l ih => intro r; cases r with
      | nil => rfl
      | cons y r => simp [ih]
  rw [e]
  have h2 := mapO_post (g := (· + 1)) h
  have h3 : mapO (fun (p : Str × Nat) => if p.2 < n + 1 then some p.2 else (ks.findIdx? (· == p.1)).map fun j => n + 1 + j) ((ps.zip (List.range ps.length)).map fun p => (p.1, p.2 + 1)) = some (pm.map (· + 1)) := by
    rw [mapO_map, ← h2]
    congr 1
    funext p
    dsimp only
    by_cases hp : p.2 < n
    · rw [if_pos (by omega), if_pos hp]; rfl
    · rw [if_neg (by omega), if_neg hp, Option.map_map]
      congr 1
      funext j
      show n + 1 + j = n + j + 1
      omega
  unfold mapO
  rw [if_pos (by show (0 : Nat) < n + 1; omega)]
  rw [h3]
section
variable {S : Cs} {Y : Ctx} {ER : ExR} {k : Nat} {W : WX} {X : Cx}
/-- the called def runs, anywhere near -/
theorem run_fc {pins : List (Addr × Obj)} {σ : L2.St} {H : Hp} {s : Shared} {Q : VK} {args : Args} {us : List Value} {vs : List V} {f : Addr} {fd : FuncData} {ps : List Str} {np : Nat} {F : List D → MM (D × Bool)} (ok : XOk S Y ER k W X) {A : Around} (hr : Room k A) (hg : A.guards = some [])
    (he : Env0 X.prog X.w X.K X.mg X.base A X.stack s H)
    (FO : FOk X.prog X.w X.K X.mg X.base k f fd ps (spOf X.K X.w ER np F)) (hb : BindsTo s fd args (ps.zip us)) (I : Inv X pins σ H s) (r : Vals vs us) {J : Jt} {M : Mem} {ds : List D} (hd : Hold X.K X.w J M H) (rl : RepL X.K X.w J vs ds) (hn : ds.length = np)
    {H0 : Hp} {J0 : Jt} (g0 : Go J0 H0 J H) (h : ResG X ER W σ J H (F ds M) fun x _ J' H' => ∀ v, RepO X.K X.w J' H0 H' v x.1 x.2 → Q v H') :
    codeAny (model X.prog X.w) A (.call (.ref f) args) (fun r s' => match r with | .ok (.ret v) => EP X pins σ Q v s' | .ok _ => False | .error e => X.xe e s') s := by
  have hsp : spOf X.K X.w ER np F vs H Q (fun cls d H' => W cls d σ H') := by
    refine ⟨J, M, ds, hd, rl, hn, ?_⟩
    cases q : F ds M with
    | ok x M' =>
      rw [q] at h
      obtain ⟨d, o⟩ := x
      exact fun v H' J' g hd' r => h J' H' g hd' v (r.back g0)
    | exc c p M' => rw [q] at h; exact fun cv dd H' J' g hd' er => h cv dd J' H' g hd' er
    | bad => rw [q] at h; exact h
  refine codeAny_mono (FO.run A X.stack s H args us vs Q _ hr hg he hb r hsp) fun r s' hq => ?_
  cases r with
  | error e => exact ok.tk e s' (XE.of_call I (fun cls d H' h => h) hq)
  | ok fl =>
    cases fl with
    | ret u => exact I.after hq
    | next => exact False.elim hq
    | brk => exact False.elim hq
    | cont => exact False.elim hq
/-- a member's facts -/
theorem mem_meth {c n : Nat} {m : Str} {C : Addr} (ok : XOk S Y ER k W X) (hm : methNo c m = some n) (hC : clsAt X.K c = some C) (hi : (m == "__init__") = false) (hr : (m == "read") = false) (hp : propT.contains m = false) :
    ∃ f fd p0 ps, Meth X.K C m f ∧ entOk X.K fd = true ∧ psOf fd = p0 :: ps ∧ msigT.lookup m = some ps ∧ FOk X.prog X.w X.K X.mg X.base k f fd (psOf fd) (spOf X.K X.w ER (psOf fd).length (Y.F n)) := by
  have hb := ok.G.memB c m n hm
  unfold memOk at hb
  rw [hi, Bool.false_or] at hb
  split at hb
  · rename_i f fd hk
    simp only [Bool.and_eq_true] at hb
    have hsig := hb.2
    have h2 := hk
    unfold memK at h2
    rw [hC] at h2
    simp only [Option.bind_some] at h2
    split at h2
    · rename_i f' hf
      split at h2
      · rename_i hfn
        simp only [Bool.and_eq_true] at hfn
        obtain ⟨fd', hfd, e⟩ := Option.map_eq_some_iff.mp h2
        simp only [Prod.mk.injEq, true_and] at e
        obtain ⟨rfl, rfl⟩ := e
        split at hsig
        · rename_i p0 ps hps
          refine ⟨_, _, p0, ps, ⟨hf, hfn.1, hfn.2⟩, ?_, hps, eq_of_beq hsig, ?_⟩
          · unfold fnAt at hfd
            split at hfd
            · split at hfd
              · rename_i hok; cases hfd; exact hok
              · cases hfd
            · cases hfd
          · exact ok.G.meths c m n .meth _ _ hm hi hk
        · cases hsig
      · split at h2
        · split at h2
          · obtain ⟨_, _, e⟩ := Option.map_eq_some_iff.mp h2
            cases e
          · cases h2
        · split at h2
          · split at h2
            · obtain ⟨_, _, e⟩ := Option.map_eq_some_iff.mp h2
              cases e
            · cases h2
          · cases h2
    · cases h2
  · simp only [Bool.and_eq_true] at hb
    rw [hp] at hb; cases hb.1
  · simp only [Bool.and_eq_true] at hb
    rw [hr] at hb; cases hb.1
  · rw [hC] at hb; cases hb
theorem mem_prop {c n : Nat} {m : Str} {C : Addr} (ok : XOk S Y ER k W X) (hm : methNo c m = some n) (hC : clsAt X.K c = some C) (hi : (m == "__init__") = false) (hr : (m == "read") = false) (hp : propT.contains m = true) :
    ∃ p g fd x, PropOf X.K C m p g ∧ entOk X.K fd = true ∧ psOf fd = [x] ∧ FOk X.prog X.w X.K X.mg X.base k g fd (psOf fd) (spOf X.K X.w ER (psOf fd).length (Y.F n)) := by
  have hb := ok.G.memB c m n hm
  unfold memOk at hb
  rw [hi, Bool.false_or] at hb
  split at hb
  · simp only [Bool.and_eq_true] at hb
    rw [hp] at hb; cases hb.1.1
  · rename_i p g fd hk
    simp only [Bool.and_eq_true, decide_eq_true_eq] at hb
    obtain ⟨x, hx⟩ := List.length_eq_one_iff.mp hb.2
    have h2 := hk
    unfold memK at h2
    rw [hC] at h2
    simp only [Option.bind_some] at h2
    split at h2
    · rename_i f' hf
      split at h2
      · obtain ⟨_, _, e⟩ := Option.map_eq_some_iff.mp h2
        cases e
      · split at h2
        · rename_i g' rest hrec
          split at h2
          · rename_i hfn
            simp only [Bool.and_eq_true] at hfn
            obtain ⟨fd', hfd, e⟩ := Option.map_eq_some_iff.mp h2
            simp only [Prod.mk.injEq, MK.prop.injEq] at e
            obtain ⟨rfl, rfl, rfl⟩ := e
            refine ⟨_, _, _, x, ⟨hf, eq_of_beq hfn.1, eq_of_beq hfn.2, rest, hrec⟩, ?_, hx, ok.G.meths c m n (.prop _) _ _ hm hi hk⟩
            unfold fnAt at hfd
            split at hfd
            · split at hfd
              · rename_i hok; cases hfd; exact hok
              · cases hfd
            · cases hfd
          · cases h2
        · split at h2
          · split at h2
            · obtain ⟨_, _, e⟩ := Option.map_eq_some_iff.mp h2
              cases e
            · cases h2
          · cases h2
    · cases h2
  · simp only [Bool.and_eq_true] at hb
    rw [hr] at hb; cases hb.1
  · rw [hC] at hb; cases hb
theorem mem_cm {c n : Nat} {m : Str} {C : Addr} (ok : XOk S Y ER k W X) (hm : methNo c m = some n) (hC : clsAt X.K c = some C) (hi : (m == "__init__") = false) (hr : (m == "read") = true) (hp : propT.contains m = false) :
    ∃ p g fd p0 ps, ClX.CRead X.K C (.type "type") ∧ ClX.CMet X.K C (.type "type") m p g ∧ entOk X.K fd = true ∧ psOf fd = p0 :: ps ∧ msigT.lookup m = some ps ∧ FOk X.prog X.w X.K X.mg X.base k g fd (psOf fd) (spOf X.K X.w ER (psOf fd).length (Y.F n)) := by
  have hb := ok.G.memB c m n hm
  unfold memOk at hb
  rw [hi, Bool.false_or] at hb
  split at hb
  · simp only [Bool.and_eq_true] at hb
    rw [hr] at hb; cases hb.1.2
  · simp only [Bool.and_eq_true] at hb
    rw [hp] at hb; cases hb.1
  · rename_i p g fd hk
    simp only [Bool.and_eq_true] at hb
    have hsig := hb.2
    have h2 := hk
    unfold memK at h2
    rw [hC] at h2
    simp only [Option.bind_some] at h2
    split at h2
    · rename_i f' hf
      split at h2
      · obtain ⟨_, _, e⟩ := Option.map_eq_some_iff.mp h2
        cases e
      · split at h2
        · split at h2
          · obtain ⟨_, _, e⟩ := Option.map_eq_some_iff.mp h2
            cases e
          · cases h2
        · split at h2
          · rename_i g' rest hrec
            split at h2
            · rename_i hcm
              obtain ⟨fd', hfd, e⟩ := Option.map_eq_some_iff.mp h2
              simp only [Prod.mk.injEq, MK.cm.injEq] at e
              obtain ⟨rfl, rfl, rfl⟩ := e
              unfold cmOk at hcm
              simp only [Bool.and_eq_true] at hcm
              obtain ⟨⟨⟨q1, q2⟩, q3⟩, q4⟩ := hcm
              split at q4
              · rename_i b p' C' hfc
                simp only [Bool.and_eq_true] at q4
                obtain ⟨e1, e2, e3⟩ := q4
                have e1 := eq_of_beq e1
                have e2 := eq_of_beq e2
                have e3 := eq_of_beq e3
                subst e1 e2 e3
                split at hsig
                · rename_i p0 ps hps
                  refine ⟨_, _, _, p0, ps, ⟨q1, eq_of_beq q2⟩, ⟨hfc, ⟨rest, hrec⟩, q3⟩, ?_, hps, eq_of_beq hsig, ok.G.meths c m n (.cm _) _ _ hm hi hk⟩
                  unfold fnAt at hfd
                  split at hfd
                  · split at hfd
                    · rename_i hok; cases hfd; exact hok
                    · cases hfd
                  · cases hfd
                · cases hsig
              · cases q4
            · cases h2
          · cases h2
    · cases h2
  · rw [hC] at hb; cases hb
/-- o.f: a field, a property -/
theorem e_attr {f : Str} {a : Expr} {ca : C} {pos : Pos} (ok : XOk S Y ER k W X) (ha : PE X a (rdE Y ER W X ca)) (hs : noSup a = true) (hf : (fieldT.contains f || propT.contains f) = true) : PE X (.Attribute a f pos) (rdE Y ER W X (.attr f ca)) := by
  refine ⟨fun pins s σ H Q I h => ?_⟩
  obtain ⟨J, M, e, hd, sl, h⟩ := h
  rw [show den Y (.attr f ca) e = _ from rfl] at h
  refine attr_of (noSup_base hs _ _ _) (thn (ha.run pins s σ H (fun v H1 => ∃ c ds J1 M1, Go J H J1 H1 ∧ Hold X.K X.w J1 M1 H1 ∧ Rep X.K X.w J1 v (.ins c ds) ∧ ResG X ER W σ J1 H1 ((match fieldIx c f with
      | some i => orBad (ds[i]?.map fun d => (d, false))
      | none => (match methNo c f with
        | some n => noExc (Y.F n [.ins c ds])
        | none => bad) : MM (D × Bool)) M1) fun x _ J' H' => ∀ v, RepO X.K X.w J' H H' v x.1 x.2 → Q v H') I ?_) fun u s1 ⟨v, H1, I1, rv, c, ds, J1, M1, g1, hd1, r1, h1⟩ => ?_)
  · refine rd_seq hd sl h fun x M1 J1 H1 v g1 hd1 sl1 r1 h1 => ?_
    obtain ⟨d, o⟩ := x
    cases d with
    | ins c ds => exact ⟨c, ds, J1, M1, g1, hd1, r1, h1⟩
    | _ => exact h1.elim
  · obtain ⟨a', C, dx, sa, nm, fn, vs, rfl, i⟩ := r1.insR
    obtain rfl : u = Value.ref a' := rv
    have F := clsB_ok (ok.G.cls c) i.hc i.at_
    cases hix : fieldIx c f with
    | some j =>
      rw [hix] at h1
      obtain ⟨a2, e', q⟩ := orBad_some h1 hd1
      obtain ⟨d', hd', rfl⟩ := Option.map_eq_some_iff.mp e'
      have hfi : fn.findIdx? (· == f) = some j := by
        unfold fieldIx at hix
        rw [i.hc] at hix; exact hix
      obtain ⟨w, hu, ru⟩ := i.r.get hd'
      have hfm : f ∈ fn := by
        obtain ⟨hlt, hge, _⟩ := List.findIdx?_eq_some_iff_getElem.mp hfi
        rw [← eq_of_beq hge]; exact List.getElem_mem hlt
      exact getattr_ok I1 (hd1.I _ _ i.h) F.cls (F.na f (List.mem_append_left _ hfm)) (by rw [lookup_zip2 hfi i.hl]; exact hu) fun u' s2 I2 ru' => ⟨w, H1, I2, ru', q J1 H1 (.refl _ _) hd1 w ru⟩
    | none =>
      rw [hix] at h1
      cases hm : methNo c f with
      | none => rw [hm] at h1; exact h1.elim
      | some n =>
        rw [hm] at h1
        have hnf : fieldT.contains f = false := by
          obtain ⟨l, hl, hml⟩ := methNo_mem hm
          have : ∀ m ∈ memTab.flatten, fieldT.contains m = false := by decide +kernel
          exact this f (List.mem_flatten.mpr ⟨l, List.mem_of_getElem? hl, hml⟩)
        have hpr : propT.contains f = true := by rw [hnf, Bool.false_or] at hf; exact hf
        have hpi : ∀ m ∈ propT, (m == ("__init__" : Str)) = false ∧ (m == ("read" : Str)) = false := by decide +kernel
        obtain ⟨h2, h3⟩ := hpi f (List.contains_iff_mem.mp hpr)
        obtain ⟨p, g, fd, x, hp, hok, hps, FO⟩ := mem_prop ok hm i.at_ h2 h3 hpr
        obtain ⟨mA, O, _, _, _, _⟩ := ins_get I1.hok (hd1.I _ _ i.h)
        obtain ⟨od, Jx, _⟩ := O.look
        obtain ⟨rest, hrec⟩ := hp.rec_
        have I2 := I1.tok (s1.toks + 1)
        have hc : (PySem.W.clsIn X.K C).isSome = true := by
          obtain ⟨cd, hc, _⟩ := PySem.W.any_some F.cls.hd
          rw [hc]; rfl
        have hb := (ok.G.binds fd hok).1 { s1 with toks := s1.toks + 1 } [.ref a'] (by rw [hps]; rfl)
        have room1 : Room k X.A.in1 := ⟨ok.room.hd, by have := ok.slack.1; show X.A.depth + 3 * k + 5 < _; omega, by have := ok.slack.2; show X.A.units + 1 + 16 * k + 200 < _; omega⟩
        have hsp : spOf X.K X.w ER (psOf fd).length (Y.F n) [.ref a'] H1 (fun v H' => Q v H') (fun _ _ _ => False) := by
          refine ⟨J1, M1, [.ins c ds], hd1, .one r1, by rw [hps]; rfl, ?_⟩
          have h1' : ResG X ER W σ J1 H1 (noExc (Y.F n [.ins c ds]) M1) (fun x _ J' H' => ∀ v, RepO X.K X.w J' H H' v x.1 x.2 → Q v H') := h1
          unfold noExc at h1'
          cases q : Y.F n [.ins c ds] M1 with
          | ok x M' =>
            rw [q] at h1'
            obtain ⟨d, o⟩ := x
            exact fun v H' J' g hd' r => h1' J' H' g hd' v (r.back g1)
          | exc c p M' => rw [q] at h1'; exact h1'.elim
          | bad => rw [q] at h1'; exact h1'
        refine PySem.W.get_bind I1.kIn Jx (PySem.W.plainGet_of (F.cls.get f)).1 (PySem.W.findObj_data hc hp.at_ hp.get hp.tak) (PySem.W.plainGet_of (F.cls.get f)).2 (wpAny_call (PySem.W.prop_get (s := { s1 with toks := s1.toks + 1 }) I1.kIn hrec ?_))
        refine codeAny_mono (FO.run X.A.in1 X.stack { s1 with toks := s1.toks + 1 } H1 ⟨[.ref a'], []⟩ [.ref a'] [.ref a'] Q _ room1 ok.guards I2.env0.in1 hb (.cons rfl .nil) hsp) fun r s' hq => ?_
        cases r with
        | error er =>
          obtain ⟨_, _, _, _, _, _, _, _, _, _, _, _, z⟩ := hq
          exact z.elim
        | ok fl =>
          cases fl with
          | ret u =>
            obtain ⟨v, H', I3, rv, q3⟩ := I2.after hq
            show wpAny _ _ (handedOut u) _ _ _
            rw [PySem.W.handedOut_of (handed_of rv)]
            exact wpAny_pure ⟨v, H', I3, rv, q3⟩
          | next => exact False.elim hq
          | brk => exact False.elim hq
          | cont => exact False.elim hq
end
end MP
end

section
set_option linter.all false
set_option Elab.async false
set_option maxRecDepth 100000
set_option maxHeartbeats 4000000
namespace MP
open PySem PySem.Spec PyProof.Rows L2
section
variable {S : Cs} {Y : Ctx} {ER : ExR} {k : Nat} {W : WX} {X : Cx}
/-- what a call's arguments must be, as read -/
structure ArgsOk (X : Cx) (Y : Ctx) (ER : ExR) (W : WX) (es : List Expr) (kws : List Keyword) (cs : List C) (kvs : List (Str × C)) (ps : List Str) (pm : List Nat) : Prop where
  he : PA X es (rdL Y ER W X cs)
  ns : NoStar es
  hcs : cs.length = es.length
  hk : PK X kws (rdL Y ER W X (kvs.map (·.2)))
  hks : ∀ env, ∃ ts, keywordEach kws env = (kvs.map (·.1)).zipWith (fun x t => (some x, t)) ts ∧ ts.length = kvs.length
  nd : (kvs.map (·.1)).Nodup
  hin : ∀ y ∈ kvs.map (·.1), y ∈ ps.drop es.length
  hl : es.length + kvs.length = ps.length
  hpm : permOf (kvs.map (·.1)) es.length ps = some pm
/-- o.m(..) -/
theorem e_meth {r : Expr} {m : Str} {ap cp : Pos} {es : List Expr} {kws : List Keyword} {cr : C} {cs : List C} {kvs : List (Str × C)} {ps : List Str} {pm : List Nat} (ok : XOk S Y ER k W X) (hr : PE X r (rdE Y ER W X cr)) (hs : noSup r = true) (hl : (ap.endLine == cp.line) = true) (hn : es.length + kws.length ≤ 5)
    (ao : ArgsOk X Y ER W es kws cs kvs ps pm) (hsig : msigT.lookup m = some ps) (hrd : (m == "read") = false) (hpr : propT.contains m = false) : PE X (.Call (.Attribute r m ap) es kws cp) (rdE Y ER W X (.meth m cr (cs ++ kvs.map (·.2)) pm)) := by
  refine ⟨fun pins s σ H Q I h => ?_⟩
  obtain ⟨J, M, e, hd, sl, h⟩ := h
  rw [show den Y (.meth m cr (cs ++ kvs.map (·.2)) pm) e = _ from rfl] at h
  refine mcall_of hs hl (few_of ao.ns ao.hks hn cp X.env) (thn (hr.run pins s σ H (fun v H1 => ∃ c ds n J1 M1, Go J H J1 H1 ∧ Hold X.K X.w J1 M1 H1 ∧ Slots X.K X.w J1 H1 σ e ∧ Rep X.K X.w J1 v (.ins c ds) ∧ methNo c m = some n ∧ ResG X ER W σ J1 H1 (MM.bind (denL Y (cs ++ kvs.map (·.2)) e) (fun vs => match mapO (fun i => vs[i]?) pm with
        | some vs' => Y.F n (.ins c ds :: vs')
        | none => bad) M1) fun x _ J' H' => ∀ v, RepO X.K X.w J' H H' v x.1 x.2 → Q v H') I ?_) fun u s1 ⟨v, H1, I1, rv, c, ds, n, J1, M1, g1, hd1, sl1, r1, hm, h1⟩ pl => ?_)
  · refine rd_seq hd sl h fun x M1 J1 H1 v g1 hd1 sl1 r1 h1 => ?_
    obtain ⟨d, o⟩ := x
    cases d with
    | ins c ds =>
      dsimp only at h1
      cases hm : methNo c m with
      | none => rw [hm] at h1; exact h1.elim
      | some n => rw [hm] at h1; exact ⟨c, ds, n, J1, M1, g1, hd1, sl1, r1, hm, h1⟩
    | _ => exact h1.elim
  · obtain ⟨a, C, dx, sa, nm, fn, vs, rfl, i⟩ := r1.insR
    obtain rfl : u = Value.ref a := rv
    have F := clsB_ok (ok.G.cls c) i.hc i.at_
    obtain ⟨l, hl1, hml⟩ := methNo_mem hm
    have hi : (m == "__init__") = false := by
      cases q : (m == ("__init__" : Str)) with
      | false => rfl
      | true =>
        have : m = "__init__" := eq_of_beq q
        subst this
        revert hsig
        rw [show msigT.lookup ("__init__" : Str) = none by decide +kernel]
        intro h; cases h
    obtain ⟨f, fd, p0, ps', hM, hok, hps, hsig', FO⟩ := mem_meth ok hm i.at_ hi hrd hpr
    rw [hsig] at hsig'
    cases hsig'
    have hlk := i.nolook (mem_nofld c _ i.hc l hl1 m hml)
    refine getmeth_ok I1 (hd1.I _ _ i.h) F.cls hM hlk ?_
    dsimp only
    refine cw_args (P := X.K.In) (f := .ref f) (first := [.ref a]) (g := fun vs => match mapO (fun i => vs[i]?) pm with
        | some vs' => Y.F n (.ins c ds :: vs')
        | none => bad) (PySem.W.keeps_K hM.kp) (fun H s I => I.kIn) ao.he ao.ns ao.hcs ao.hk ao.hks I1 hd1 sl1 h1 fun us ws vs2 ds2 s2 H2 J2 M2 I2 rv2 hul hwl g2 hd2 rl2 h2 => ?_
    cases q : mapO (fun i => ds2[i]?) pm with
    | none => rw [q] at h2; exact h2.elim
    | some ds' =>
      rw [q] at h2
      have hpl : ds'.length = ps.length := by
        rw [← (mapO_some q).1, ← (mapO_some ao.hpm).1]; simp
      have hbind := (ok.G.binds fd hok).2 (es.length + 1) (kvs.map (·.1)) (0 :: pm.map (· + 1)) ao.nd (fun y hy => by rw [hps]; exact ao.hin y hy) (by rw [hps]; exact permOf_cons ao.hpm) s2 (.ref a :: us) ws (by simp [hul]) (by rw [hwl]; simp) (by rw [hps, List.length_map]; simp; have := ao.hl; omega)
      have e3 : (0 :: pm.map (· + 1)).map (fun i => ((Value.ref a :: us) ++ ws).getD i .none) = Value.ref a :: pm.map (fun i => (us ++ ws).getD i .none) := by
        rw [List.map_cons, List.map_map]
        rfl
      rw [e3] at hbind
      have hl2 : vs2.length = ds2.length := rl2.len
      exact wpAny_call (run_fc (args := (⟨.ref a :: us, (kvs.map Prod.fst).zip ws⟩ : Args)) (vs := .ref a :: pm.map fun i => vs2.getD i .non) ok ok.room ok.guards I2.env0 FO hbind I2 (.cons rfl (Vals.getD rv2 hl2 q)) hd2 (.cons (r1.ext g2.ext) (rl2.getD q)) (by rw [hps]; simp [hpl]) (g1.trans g2) h2)
/-- C.m(..), a classmethod -/
theorem e_cmeth {x m : Str} {c n : Nat} {p ap cp : Pos} {es : List Expr} {kws : List Keyword} {cs : List C} {kvs : List (Str × C)} {ps : List Str} {pm : List Nat} (ok : XOk S Y ER k W X) (hx : S.clss.lookup x = some c) (hg : isGl S x = true) (hl : (ap.endLine == cp.line) = true) (hn : es.length + kws.length ≤ 5)
    (ao : ArgsOk X Y ER W es kws cs kvs ps pm) (hsig : msigT.lookup m = some ps) (hrd : (m == "read") = true) (hm : methNo c m = some n) : PE X (.Call (.Attribute (.Name x p) m ap) es kws cp) (rdE Y ER W X (.callp n (.cls c :: (cs ++ kvs.map (·.2))) (0 :: pm.map (· + 1)))) := by
  obtain ⟨hdb, hcn, C, hC, hmg, hkp⟩ := ok.G.clsn x c hx
  have hm0 : m = "read" := eq_of_beq hrd
  obtain ⟨q, g, fd, p0, ps', CR, CM, hok, hps, hsig', FO⟩ := mem_cm ok hm hC (by rw [hm0]; decide +kernel) hrd (by rw [hm0]; decide +kernel)
  rw [hsig] at hsig'
  cases hsig'
  refine ⟨fun pins s σ H Q I h => ?_⟩
  obtain ⟨J, M, e, hd, sl, h⟩ := h
  have h' : ResG X ER W σ J H (MM.bind (denL Y (cs ++ kvs.map (·.2)) e) (fun vs => match mapO (fun i => vs[i]?) pm with
        | some vs' => Y.F n (.cls c :: vs')
        | none => bad) M) (fun x _ J' H' => ∀ v, RepO X.K X.w J' H H' v x.1 x.2 → Q v H') := by
    have e1 : den Y (.callp n (.cls c :: (cs ++ kvs.map (·.2))) (0 :: pm.map (· + 1))) e = MM.bind (MM.bind (MM.pure (D.cls c, false)) fun x => MM.bind (denL Y (cs ++ kvs.map (·.2)) e) fun xs => MM.pure (x.1 :: xs)) fun ds => match mapO (fun i => ds[i]?) (0 :: pm.map (· + 1)) with
      | some ds' => Y.F n ds'
      | none => bad := rfl
    rw [e1] at h
    have e2 : ∀ M, MM.bind (MM.bind (MM.pure (D.cls c, false)) fun x => MM.bind (denL Y (cs ++ kvs.map (·.2)) e) fun xs => MM.pure (x.1 :: xs)) (fun ds => match mapO (fun i => ds[i]?) (0 :: pm.map (· + 1)) with
      | some ds' => Y.F n ds'
      | none => bad) M = MM.bind (denL Y (cs ++ kvs.map (·.2)) e) (fun vs => match mapO (fun i => vs[i]?) pm with
        | some vs' => Y.F n (.cls c :: vs')
        | none => bad) M := by
      intro M
      unfold MM.bind MM.pure
      dsimp only
      cases denL Y (cs ++ kvs.map (·.2)) e M with
      | ok vs M1 =>
        dsimp only
        have : mapO (fun i => (D.cls c :: vs)[i]?) (0 :: pm.map (· + 1)) = (mapO (fun i => vs[i]?) pm).map (D.cls c :: ·) := by
          rw [mapO_cons, mapO_map]
          simp only [List.getElem?_cons_zero, List.getElem?_cons_succ]
          cases mapO (fun i => vs[i]?) pm <;> rfl
        rw [this]
        cases mapO (fun i => vs[i]?) pm <;> rfl
      | exc _ _ _ => rfl
      | bad => rfl
    rw [e2] at h
    exact h
  refine mcall_of (by rfl) hl (few_of ao.ns ao.hks hn cp X.env) ?_
  refine thn ((pe_glob (gl_of ok hg) hmg (v := .ref C) rfl hdb).run pins s σ H (fun v H1 => v = .ref C ∧ H1 = H) I ⟨rfl, rfl⟩) fun u s1 ⟨v, H1, I1, rv, ev, eH⟩ pl => ?_
  subst ev eH
  obtain rfl : u = Value.ref C := rv
  refine ClX.getmethcm_ok I1 CR CM fun s2 I2 => ?_
  dsimp only
  refine thn (cw_args (P := PySem.W.MethP X.K s1.heap.objs.size g (.ref C)) (f := .ref s1.heap.objs.size) (first := []) (g := fun vs => match mapO (fun i => vs[i]?) pm with
        | some vs' => Y.F n (.cls c :: vs')
        | none => bad) (PySem.W.keeps_M CM.fi) (fun H s I => ⟨ClX.pin_at I, I.kIn⟩) ao.he ao.ns ao.hcs ao.hk ao.hks I2 hd sl h' fun us ws vs2 ds2 s3 H2 J2 M2 I3 rv2 hul hwl g2 hd2 rl2 h2 => ?_) fun _ _ y => ClX.unpinE y
  cases q : mapO (fun i => ds2[i]?) pm with
  | none => rw [q] at h2; exact h2.elim
  | some ds' =>
    rw [q] at h2
    have hpl : ds'.length = ps.length := by
      rw [← (mapO_some q).1, ← (mapO_some ao.hpm).1]; simp
    have hbind := (ok.G.binds fd hok).2 (es.length + 1) (kvs.map (·.1)) (0 :: pm.map (· + 1)) ao.nd (fun y hy => by rw [hps]; exact ao.hin y hy) (by rw [hps]; exact permOf_cons ao.hpm) s3 (.ref C :: us) ws (by simp [hul]) (by rw [hwl]; simp) (by rw [hps, List.length_map]; simp; have := ao.hl; omega)
    have e3 : (0 :: pm.map (· + 1)).map (fun i => ((Value.ref C :: us) ++ ws).getD i .none) = Value.ref C :: pm.map (fun i => (us ++ ws).getD i .none) := by
      rw [List.map_cons, List.map_map]
      rfl
    rw [e3] at hbind
    have hl2 : vs2.length = ds2.length := rl2.len
    have hns := clsAt_some hC hcn
    exact wpAny_call (PySem.W.method_call (ClX.pin_at I3) (run_fc (args := (⟨.ref C :: us, (kvs.map Prod.fst).zip ws⟩ : Args)) (vs := .ref C :: pm.map fun i => vs2.getD i .non) ok ok.room ok.guards I3.env0 FO hbind I3 (.cons rfl (Vals.getD rv2 hl2 q)) hd2 (.cons (.cls hcn hns) (rl2.getD q)) (by rw [hps]; simp [hpl]) g2 h2))
end
end MP
end

section
set_option linter.all false
set_option Elab.async false
set_option maxRecDepth 100000
set_option maxHeartbeats 4000000
namespace MP
open PySem PySem.Spec PyProof.Rows L2
section
variable {S : Cs} {Y : Ctx} {ER : ExR} {k : Nat} {W : WX} {X : Cx}
theorem init_facts {c n : Nat} {C : Addr} (ok : XOk S Y ER k W X) (hm : methNo c "__init__" = some n) (hC : clsAt X.K c = some C) :
    ∃ f fd sf p, Mk X.K C f ∧ entOk X.K fd = true ∧ psOf fd = [sf, p] ∧ initP[c]? = some p ∧ FOk X.prog X.w X.K X.mg X.base k f fd (psOf fd) (spInit X.K X.w ER c (Y.F n)) := by
  have h1 := ok.G.initB c (by rw [hC]; rfl)
  cases hk : initK X.K c with
  | none => rw [hk] at h1; cases h1
  | some q =>
    obtain ⟨f, fd⟩ := q
    obtain ⟨e1, e2, FO⟩ := ok.G.inits c n f fd hm hk
    unfold initK at hk
    rw [hC] at hk
    simp only [Option.bind_some] at hk
    split at hk
    · rename_i f' hf
      split at hk
      · rename_i hc
        simp only [Bool.and_eq_true] at hc
        obtain ⟨fd', hfd, e⟩ := Option.map_eq_some_iff.mp hk
        cases e
        have hok : entOk X.K fd = true := by
          unfold fnAt at hfd
          split at hfd
          · split at hfd
            · rename_i hok; cases hfd; exact hok
            · cases hfd
          · cases hfd
        match hps : psOf fd, e1, e2 with
        | [sf, p], e1, _ =>
          refine ⟨_, _, sf, p, ⟨hc.1.1, hf, hc.1.2, hc.2⟩, hok, hps, ?_, FO⟩
          have e1 : [p] = (initP[c]?).toList := e1
          cases hq : initP[c]? with
          | none => rw [hq] at e1; cases e1
          | some y => rw [hq] at e1; cases e1; rfl
      · cases hk
    · cases hk
/-- the call of a class -/
theorem run_mk {pins : List (Addr × Obj)} {σ : L2.St} {H : Hp} {s : Shared} {Q : VK} {us : List Value} {kw : List (Str × Value)} {u : Value} {v : V} {c n : Nat} {C f : Addr} {fd : FuncData} {sf p : Str} (ok : XOk S Y ER k W X) (MK : Mk X.K C f) (hC : clsAt X.K c = some C) (hps : psOf fd = [sf, p])
    (FO : FOk X.prog X.w X.K X.mg X.base k f fd (psOf fd) (spInit X.K X.w ER c (Y.F n))) (hb : ∀ (s : Shared) (x : Value), BindsTo s fd ⟨x :: us, kw⟩ ([sf, p].zip [x, u])) (I : Inv X pins σ H s) (r : RelV v u) {J : Jt} {M : Mem} {d : D} (hd : Hold X.K X.w J M H) (rl : Rep X.K X.w J v d)
    {H0 : Hp} {J0 : Jt} (g0 : Go J0 H0 J H) (h : ResG X ER W σ J H (MM.bind (Y.F n [d]) (fun _ => MM.pure (D.ins c [d], false)) M) fun x _ J' H' => ∀ v, RepO X.K X.w J' H0 H' v x.1 x.2 → Q v H') :
    wpAny (model X.prog X.w) X.A (call (.ref C) us kw) (EP X pins σ Q) X.xe s := by
  have I2 := Inv.made (C := C) I
  have hn1 : H (s.heap.objs.size + 1) = none := I.hok.fresh (Nat.le_succ _)
  have hn0 : H s.heap.objs.size = none := I.hok.fresh (Nat.le_refl _)
  have ne : s.heap.objs.size ≠ s.heap.objs.size + 1 := Nat.ne_of_lt (Nat.lt_succ_self _)
  have hq : spInit X.K X.w ER c (Y.F n) [.ref (s.heap.objs.size + 1), v] (upd (upd H s.heap.objs.size (.own (s.heap.objs.size + 1))) (s.heap.objs.size + 1) (.ins C s.heap.objs.size [])) (fun v H2 => v = .non ∧ Q (.ref (s.heap.objs.size + 1)) H2) (fun cls d H' => W cls d σ H') := by
    refine ⟨J, M, d, v, _, _, C, H, rfl, hC, rfl, hn1, hn0, ne, hd, rl, ?_⟩
    unfold MM.bind at h
    cases q : Y.F n [d] M with
    | ok x M' => rw [q] at h; exact fun H' J' g hd' r => ⟨rfl, h J' H' g hd' _ r⟩
    | exc cc p M' => rw [q] at h; exact fun cv dd H' J' g hd' er => h cv dd J' H' g hd' er
    | bad => rw [q] at h; exact h
  have room1 : Room k (X.A.under (.builtin "type.__call__" ⟨.ref C :: us, kw⟩)) := ⟨ok.room.hd, by have := ok.slack.1; rw [make_depth]; omega, by have := ok.slack.2; rw [make_units]; omega⟩
  have hg1 : (X.A.under (.builtin "type.__call__" ⟨.ref C :: us, kw⟩)).guards = some [] := by
    have := ok.guards
    first
      | exact this
      | simpa [Around.under] using this
  refine wpAny_call (make_map (f := f) I.kIn MK.makes MK.init (beq_iff_eq.mp MK.fn) (codeAny_mono (FO.run _ X.stack _ _ ⟨Value.ref (s.heap.objs.size + 1) :: us, kw⟩ [.ref (s.heap.objs.size + 1), u] [.ref (s.heap.objs.size + 1), v] _ _ room1 hg1
    (I2.env0.make C us kw) (by rw [hps]; exact hb _ _) (.cons rfl (.cons r .nil)) hq) fun r s' hq' => ?_))
  cases r with
  | error e => exact ok.tk e s' (XE.of_call I2 (fun cls d H' h => h) hq')
  | ok fl =>
    cases fl with
    | ret u =>
      obtain ⟨v, H', I3, rv, ev, q3⟩ := I2.after hq'
      subst ev
      exact ⟨rv, ⟨V.ref (s.heap.objs.size + 1), H', I3, rfl, q3⟩⟩
    | next => exact False.elim hq'
    | brk => exact False.elim hq'
    | cont => exact False.elim hq'
theorem mk_den {c n : Nat} {ca : C} {e : MP.Env} : den Y (.mkc c n ca) e = MM.bind (denL Y [ca] e) fun vs => match vs with
    | [d] => MM.bind (Y.F n [d]) fun _ => MM.pure (D.ins c [d], false)
    | _ => bad := by
  funext M
  show MM.bind (den Y ca e) (fun x => MM.bind (Y.F n [x.1]) fun _ => MM.pure (D.ins c [x.1], false)) M = MM.bind (MM.bind (den Y ca e) fun x => MM.bind (MM.pure []) fun xs => MM.pure (x.1 :: xs)) _ M
  unfold MM.bind MM.pure
  cases den Y ca e M <;> rfl
/-- C(e) -/
theorem e_make {x : Str} {c n : Nat} {p pos : Pos} {a : Expr} {ca : C} (ok : XOk S Y ER k W X) (hx : S.clss.lookup x = some c) (hg : isGl S x = true) (hm : methNo c "__init__" = some n) (ha : PE X a (rdE Y ER W X ca)) (na : ∀ rest env, starEach (a :: rest) env = (false, eval a env) :: starEach rest env) :
    PE X (.Call (.Name x p) [a] [] pos) (rdE Y ER W X (.mkc c n ca)) := by
  obtain ⟨hdb, hcn, C, hC, hmg, hkp⟩ := ok.G.clsn x c hx
  obtain ⟨f, fd, sf, pn, MK, hok, hps, hpn, FO⟩ := init_facts ok hm hC
  refine ⟨fun pins s σ H Q I h => ?_⟩
  obtain ⟨J, M, e, hd, sl, h⟩ := h
  rw [mk_den] at h
  refine wpAny_Call_Name_kw (ld_glob I (gl_of ok hg) hmg ?_ hdb)
  refine cw_args (P := X.K.In) (f := .ref C) (first := []) (kws := []) (kvs := []) (cs := [ca]) (es := [a]) (PySem.W.keeps_K hkp) (fun H s I => I.kIn) (a_cons ha a_nil (na _ _)) (NoStar.cons na NoStar.nil) rfl k_nil (fun env => ⟨[], rfl, rfl⟩) I hd sl h fun us ws vs ds s1 H1 J1 M1 I1 rv hul hwl g1 hd1 rl1 h1 => ?_
  have hws : ws = [] := List.length_eq_zero_iff.mp hwl
  subst hws
  rw [List.append_nil] at rv
  match us, hul with
  | [u], _ =>
    cases rv with
    | cons ru rt =>
      cases rt
      cases rl1 with
      | cons r1 rt1 =>
        cases rt1
        refine run_mk (u := u) ok MK hC hps FO (fun s x => ?_) I1 ru hd1 r1 g1 h1
        have := (ok.G.binds fd hok).1 s [x, u] (by rw [hps]; rfl)
        rw [hps] at this
        exact this
/-- C(f=e) -/
theorem e_makeK {x pn : Str} {c n : Nat} {p pos kp : Pos} {a : Expr} {ca : C} (ok : XOk S Y ER k W X) (hx : S.clss.lookup x = some c) (hg : isGl S x = true) (hm : methNo c "__init__" = some n) (hpn : initP[c]? = some pn) (ha : PE X a (rdE Y ER W X ca)) :
    PE X (.Call (.Name x p) [] [⟨some pn, a, kp⟩] pos) (rdE Y ER W X (.mkc c n ca)) := by
  obtain ⟨hdb, hcn, C, hC, hmg, hkp⟩ := ok.G.clsn x c hx
  obtain ⟨f, fd, sf, pn', MK, hok, hps, hpn', FO⟩ := init_facts ok hm hC
  rw [hpn] at hpn'
  cases hpn'
  refine ⟨fun pins s σ H Q I h => ?_⟩
  obtain ⟨J, M, e, hd, sl, h⟩ := h
  rw [mk_den] at h
  refine wpAny_Call_Name_kw (ld_glob I (gl_of ok hg) hmg ?_ hdb)
  refine cw_args (P := X.K.In) (f := .ref C) (first := []) (kvs := [(pn, ca)]) (cs := []) (es := []) (PySem.W.keeps_K hkp) (fun H s I => I.kIn) a_nil NoStar.nil rfl (k_cons ha k_nil) (fun env => ⟨[eval a env], rfl, rfl⟩) I hd sl h fun us ws vs ds s1 H1 J1 M1 I1 rv hul hwl g1 hd1 rl1 h1 => ?_
  have hus : us = [] := List.length_eq_zero_iff.mp hul
  subst hus
  match ws, hwl with
  | [u], _ =>
    cases rv with
    | cons ru rt =>
      cases rt
      cases rl1 with
      | cons r1 rt1 =>
        cases rt1
        refine run_mk (u := u) ok MK hC hps FO (fun s x => ?_) I1 ru hd1 r1 g1 h1
        have := (ok.G.binds fd hok).2 1 [pn] [0, 1] (by simp) (fun y hy => by rw [hps]; exact hy) (by rw [hps]; unfold permOf; simp [List.range_succ, mapO]) s [x] [u] rfl rfl (by rw [hps]; rfl)
        rw [hps] at this
        exact this
end
end MP
end

section
set_option linter.all false
set_option Elab.async false
set_option maxRecDepth 100000
set_option maxHeartbeats 4000000
namespace MP
open PySem PySem.Spec PyProof.Rows L2 Builtin
/-! == and != of instances -/
section
variable {prog : Program} {w : World} {A : Around} {E : Value → Shared → Prop} {s : Shared} {K : PySem.W.Frag} {x C L f : Addr} {h₀ : Heap} {m : Str → Option Value} {ox : Obj} {od : Option Obj} {b tb : Value}
open PySem.W in
theorem ifBound_B {M : Model} {name : Str} {id : String} {T : String} {args : List Value} {Q : Option Value → Shared → Prop} (X : K.In s.heap) (I : InstAt s.heap x ox C od) (hs : findIn K (.ref C) name = some (some (.builtin id))) (S : Slot T name id)
    (h : wpAny M A (call (.builtin id) (.ref x :: args)) (fun v => Q (some v)) E s) : wpAny M A (callSpecialIfBound? (.ref x) name args) Q E s := by
  simp only [callSpecialIfBound?, bindSpecialIfBound?]
  refine wpAny_holding (wpAny_bind (wpAny_bind (wpAny_bind (I.type.here ((looks_findIn X hs).here ?_)))))
  refine wpAny_bind (wpAny_askSetting (wpAny_ite ?_))
  have fin : wpAny M A (call (.builtin id) ([.ref x] ++ args) >>= fun v => pure (some v)) Q E s := wpAny_bind (wpAny_mono h (fun v s' h' => wpAny_pure h') fun _ _ h' => h')
  simp only [S.bind]
  split
  · exact wpAny_bind (wpAny_pure (wpAny_pure fin))
  · exact wpAny_tryCatch (wpAny_bind (wpAny_pure (wpAny_pure fin)))
open PySem.W in
theorem objNe_K {y : Value} {Q : Fin → Shared → Prop} (X : K.In s.heap) (I : InstAt s.heap x ox C od) (hs : findIn K (.ref C) "__eq__" = some (some (.ref f))) (hf : isFn K (.ref f) = true) (hu : A.units < cLine)
    (hcall : wpAny (model prog w) A (call (.ref f) [.ref x, y]) (fun v s' => ∃ b, v = .bool b ∧ Q (.done (.ret (.bool (!b)))) s') E s) :
    wpAny (model prog w) A (Builtin.«object.__ne__» ⟨[.ref x, y], []⟩) Q E s := by
  unfold Builtin.«object.__ne__»
  repeat (first
    | with_reducible refine wpAny_cRoomFor hu ?_
    | (refine wpAny_bind (m := callSpecialIfBound? (.ref x) (Str.ofString "__eq__") [y])
        (ifBound_K X I hs hf (wpAny_mono hcall (fun r s' hr => by
          obtain ⟨b, rfl, hq⟩ := hr
          repeat (first | exact hq | exact wpAny_pure hq | exact wpAny_truthy_bool hq | (refine wpAny_bind (m := truthy (.bool _)) (wpAny_truthy_bool ?_)) | wp_step)) fun _ _ e => e)))
    | wp_step)
open PySem.W in
theorem ne_K {Q : Value → Shared → Prop} (hu : A.units + 1 < cLine) (F : Fr h₀ L s.heap m) (X₀ : K.In h₀) (I : InstAt s.heap x ox C od) (hb : Looks (model prog w) s.heap (typeOf b) tb) (hn : notFirst K C tb = true)
    (hne : findIn K (.ref C) "__ne__" = some (some (.builtin "object.__ne__"))) (hobj : mroIn K C (.type "object") = some true) (hs : findIn K (.ref C) "__eq__" = some (some (.ref f))) (hf : isFn K (.ref f) = true)
    (h : wpAny (model prog w) A.in1 (call (.ref f) [.ref x, b]) (fun v s' => ∃ t, v = .bool t ∧ Q (.bool (!t)) s') E s) : wpAny (model prog w) A (richCompare .NotEq (.ref x) b) Q E s := by
  have X := X₀.keeps F.keep
  have one : wpAny (model prog w) A (tryCompare (.ref x) (cmpInfo .NotEq).2.1 b) (fun r s' => ∃ v, r = some v ∧ Q v s') E s := by
    unfold tryCompare
    refine wpAny_bind (ifBound_B X I hne PySem.F.cmp_object.ne (wpAny_call (codeAny_call_builtin PySem.F.cmp_object.ne.plain PySem.F.cmpEntry_ne
      (check_slot PySem.F.cmpKind_ne PySem.F.cmpSplit_ne (I.type.andThen (looks_mroIn X hobj)) (PySem.F.cmpArgs_ne _ _)
        (objNe_K (A := A.in1) X I hs hf hu (wpAny_mono h (fun v s' hv => ?_) fun _ _ e => e))))))
    obtain ⟨t, rfl, hq⟩ := hv
    first | exact ⟨t, rfl, wpAny_pure ⟨_, rfl, hq⟩⟩ | exact ⟨t, rfl, wpAny_pure (wpAny_pure ⟨_, rfl, hq⟩)⟩
  unfold richCompare
  simp only [oneThing_ref]
  refine wpAny_holding (wpAny_bind (wpAny_cRoomFor (Nat.lt_of_succ_lt hu) ?_))
  refine wpAny_bind (I.type.here (wpAny_bind (hb.here ?_)))
  split
  · rename_i q
    have e : subIn K tb (.ref C) = some false := by
      rcases Bool.or_eq_true_iff.mp hn with e | e
      · rw [beq_iff_eq.mp e] at q; simp at q
      · exact beq_iff_eq.mp e
    refine wpAny_bind ((looks_subIn X e).here ?_)
    simp only [Bool.false_eq_true, if_false]
    refine wpAny_bind (wpAny_mono one (fun r s' z => ?_) fun _ _ e => e)
    obtain ⟨v, rfl, hq⟩ := z
    exact wpAny_pure hq
  · refine wpAny_bind (wpAny_pure ?_)
    simp only [Bool.false_eq_true, if_false]
    refine wpAny_bind (wpAny_mono one (fun r s' z => ?_) fun _ _ e => e)
    obtain ⟨v, rfl, hq⟩ := z
    exact wpAny_pure hq
end
section
variable {S : Cs} {Y : Ctx} {ER : ExR} {k : Nat} {W : WX} {X : Cx}
/-- what an own __eq__ answers -/
def rCmpI (Y : Ctx) (X : Cx) (o : COp) : R2 := fun x y H Q => ∃ (J : Jt) (M : Mem) (dx dy : D) (n : Nat) (neg b f : Bool) (M' : Mem), Hold X.K X.w J M H ∧ Rep X.K X.w J x dx ∧ Rep X.K X.w J y dy ∧ cmpN o dx dy = some (n, neg) ∧
  Y.F n [dx, dy] M = .ok (.bl b, f) M' ∧ ∀ J' H', Go J H J' H' → Hold X.K X.w J' M' H' → Q (.bl (neg != b)) H'
theorem cmpN_some {o : COp} {dx dy : D} {n : Nat} {neg : Bool} (h : cmpN o dx dy = some (n, neg)) : ∃ c l l', dx = .ins c l ∧ dy = .ins c l' ∧ methNo c "__eq__" = some n ∧ ((o = .eq ∧ neg = false) ∨ (o = .ne ∧ neg = true)) := by
  unfold cmpN at h
  split at h
  · rename_i c l c' l'
    split at h
    · rename_i hc
      have := eq_of_beq hc
      subst this
      cases o <;> simp only [reduceCtorEq] at h
      · obtain ⟨m, hm, e⟩ := Option.map_eq_some_iff.mp h
        cases e
        exact ⟨c, l, l', rfl, rfl, hm, .inl ⟨rfl, rfl⟩⟩
      · obtain ⟨m, hm, e⟩ := Option.map_eq_some_iff.mp h
        cases e
        exact ⟨c, l, l', rfl, rfl, hm, .inr ⟨rfl, rfl⟩⟩
    · cases h
  · cases h
theorem op_cmpI {op : CmpOp} {o : COp} (ho : cCmp op = some o) (ok : XOk S Y ER k W X) : OpR X (compareOp op) (rCmpI Y X o) := by
  intro pins s σ H x y v u Q I rx ry h
  obtain ⟨J, M, dx, dy, n, neg, b, f, M', hd, r1, r2, hN, hF, q⟩ := h
  obtain ⟨c, l, l', rfl, rfl, hm, hop⟩ := cmpN_some hN
  obtain ⟨a1, C, dx1, s1, nm, fn, vs1, rfl, i1⟩ := r1.insR
  obtain ⟨a2, C2, dx2, s2, nm2, fn2, vs2, rfl, i2⟩ := r2.insR
  have hCC : C2 = C := by have := i1.at_; rw [i2.at_] at this; cases this; rfl
  subst hCC
  have cf := clsB_ok (ok.G.cls c) i1.hc i1.at_
  cases rx
  cases ry
  obtain ⟨mA, JA, _⟩ := ins_get I.hok (hd.I _ _ i1.h)
  obtain ⟨mB, JB, _⟩ := ins_get I.hok (hd.I _ _ i2.h)
  obtain ⟨od, JA, _⟩ := JA.look
  obtain ⟨od', JB, _⟩ := JB.look
  obtain ⟨m, hFr⟩ := I.fr
  obtain ⟨fa, fd, p0, ps, ⟨hfind, hfn, hkp⟩, hok, hps, hsig, FO⟩ := mem_meth ok hm i1.at_ (by decide) (by decide) (by decide)
  have hpl : (psOf fd).length = 2 := by
    have : msigT.lookup ("__eq__" : Str) = some [("other" : Str)] := by decide +kernel
    rw [this] at hsig
    cases hsig
    rw [hps]; rfl
  have hbd : BindsTo s fd ⟨[.ref a1, .ref a2], []⟩ ((psOf fd).zip [.ref a1, .ref a2]) := (ok.G.binds fd hok).1 s [.ref a1, .ref a2] (by rw [hpl]; rfl)
  have go : ∀ (A : Around), Room k A → A.guards = some [] → Env0 X.prog X.w X.K X.mg X.base A X.stack s H → wpAny (model X.prog X.w) A (call (.ref fa) [.ref a1, .ref a2]) (EP X pins σ fun v H' => v = .bl b ∧ Q (.bl (neg != b)) H') X.xe s := by
    intro A hr hg he
    have hcd := run_fc (σ := σ) (pins := pins) (Q := fun v H' => v = .bl b ∧ Q (.bl (neg != b)) H') (args := ⟨[.ref a1, .ref a2], []⟩) (us := [.ref a1, .ref a2]) (vs := [.ref a1, .ref a2]) (ds := [.ins c l, .ins c l']) ok hr hg he FO hbd I (.cons rfl (.cons rfl .nil)) hd (.cons r1 (.cons r2 .nil)) (by rw [hpl]; rfl) (.refl J H) (by
      rw [hF]
      intro J' H' g hd' v r
      refine ⟨?_, q J' H' g hd'⟩
      cases f with
      | false => cases r; rfl
      | true => obtain ⟨a, _, _, o, _, _, _, r⟩ := r; cases r)
    refine wpAny_call (codeAny_mono hcd fun r s' hq => ?_)
    cases r with
    | error e => exact hq
    | ok fl => cases fl <;> exact hq
  rcases hop with ⟨rfl, rfl⟩ | ⟨rfl, rfl⟩
  · have : op = .Eq := by cases op <;> simp [cCmp] at ho; rfl
    subst this
    show wpAny (model X.prog X.w) X.A (richCompare .Eq (.ref a1) (.ref a2)) (EP X pins σ Q) X.xe s
    refine PySem.W.cmp_K (op := .Eq) (tb := .ref C2) (by have := ok.slack.2; omega) hFr I.ok.mod.kin JA JB.type (by simp [PySem.W.notFirst]) hfind hfn ?_
    refine wpAny_mono (go X.A ok.room ok.guards I.env0) (fun v s' hv => ?_) fun _ _ e => e
    obtain ⟨z, H', I', rz, ez, qq⟩ := hv
    subst ez
    cases rz
    exact ⟨.bl b, H', I', rfl, by simpa using qq⟩
  · have : op = .NotEq := by cases op <;> simp [cCmp] at ho; rfl
    subst this
    show wpAny (model X.prog X.w) X.A (richCompare .NotEq (.ref a1) (.ref a2)) (EP X pins σ Q) X.xe s
    refine ne_K (tb := .ref C2) (by have := ok.slack.2; omega) hFr I.ok.mod.kin JA JB.type (by simp [PySem.W.notFirst]) cf.ne cf.hm hfind hfn ?_
    refine wpAny_mono (go X.A.in1 ⟨ok.room.hd, by have := ok.slack.1; show X.A.depth + 3 * k + 5 < _; omega, by have := ok.slack.2; show X.A.units + 1 + 16 * k + 200 < _; omega⟩ ok.guards I.env0.in1) (fun v s' hv => ?_) fun _ _ e => e
    obtain ⟨z, H', I', rz, ez, qq⟩ := hv
    subst ez
    cases rz
    exact ⟨b, rfl, .bl (!b), H', I', rfl, by simpa using qq⟩
theorem cmpM_read {o : COp} {σ : L2.St} {J : Jt} {H : Hp} {M : Mem} {dx dy : D} {post : D × Bool → Mem → Jt → Hp → Prop} {v u : V} {Q : VK} {old : Prop} (hd : Hold X.K X.w J M H) (r1 : RepB X.K X.w J H v dx) (r2 : RepB X.K X.w J H u dy) (h : ResG X ER W σ J H (cmpM Y.F o dx dy M) post)
    (h1 : ∀ d, cmpO o dx dy = some d → (∀ J' H', Go J H J' H' → Hold X.K X.w J' M H' → post (.bl d, false) M J' H') → old) (h2 : ∀ t M' J' H', Go J H J' H' → Hold X.K X.w J' M' H' → post (.bl t, false) M' J' H' → Q (.bl t) H') : old ∨ rCmpI Y X o v u H Q := by
  unfold cmpM at h
  cases hN : cmpN o dx dy with
  | none =>
    rw [hN] at h
    obtain ⟨a', e', q⟩ := orBad_some h hd
    obtain ⟨d, ed, rfl⟩ := Option.map_eq_some_iff.mp e'
    exact .inl (h1 d ed q)
  | some p =>
    obtain ⟨n, neg⟩ := p
    rw [hN] at h
    dsimp only at h
    cases hF : Y.F n [dx, dy] M with
    | ok r M' =>
      unfold MM.bind at h
      rw [noExc_of hF] at h
      obtain ⟨d, f⟩ := r
      cases d <;> first | exact h.elim | skip
      rename_i b
      obtain ⟨c, l, l', rfl, rfl, hm, hop⟩ := cmpN_some hN
      exact .inr ⟨J, M, _, _, n, neg, b, f, M', hd, r1.insR, r2.insR, hN, hF, fun J' H' g hd' => h2 _ M' J' H' g hd' (h J' H' g hd')⟩
    | exc c p M' => unfold MM.bind noExc at h; rw [hF] at h; exact h.elim
    | bad => unfold MM.bind noExc at h; rw [hF] at h; exact h.elim
theorem e_cmp {a b : Expr} {op : CmpOp} {o : COp} {ca cb : C} {pos : Pos} (ok : XOk S Y ER k W X) (ho : cCmp op = some o) (hu : X.A.units + 66 < cLine) (ha : PE X a (rdB Y ER W X ca)) (hb : PE X b (rdB Y ER W X cb)) (hm : behindInMarks op b = false) :
    PE X (.Compare a [op] [b] pos) (rdE Y ER W X (.cmp o ca cb)) ∧ PT X (.Compare a [op] [b] pos) (rdT Y ER W X (.cmp o ca cb)) := by
  constructor
  · refine PE.imp (pe_cmpR ((opCmp ho hu).or (op_cmpI ho ok)) ha hb hm) fun σ H Q h => ?_
    obtain ⟨J, M, e, hd, sl, h⟩ := h
    rw [show den Y (.cmp o ca cb) e = _ from rfl] at h
    refine rd_seqB hd sl h fun x M1 J1 H1 v g1 hd1 sl1 r1 h1 => ?_
    refine rd_seqB hd1 sl1 h1 fun y M2 J2 H2 u g2 hd2 sl2 r2 h2 => ?_
    refine cmpM_read hd2 (r1.go g2) r2 h2 (fun d ed q => ?_) fun t M' J' H' g hd' q => q _ (.bl t)
    exact ⟨J2, M2, x.1, y.1, d, hd2, r1.go g2, r2, ed, q J2 H2 (.refl _ _) hd2 _ (.bl d)⟩
  · refine PT.imp (pt_cmpR ((opCmp ho hu).or (op_cmpI ho ok)) ha hb hm) fun σ H Q h => ?_
    obtain ⟨J, M, e, hd, sl, h⟩ := h
    rw [show den Y (.cmp o ca cb) e = _ from rfl] at h
    refine rd_seqB hd sl h fun x M1 J1 H1 v g1 hd1 sl1 r1 h1 => ?_
    refine rd_seqB hd1 sl1 h1 fun y M2 J2 H2 u g2 hd2 sl2 r2 h2 => ?_
    refine cmpM_read hd2 (r1.go g2) r2 h2 (fun d ed q => ?_) fun t M' J' H' g hd' q => ?_
    · obtain ⟨b, eb, q⟩ := q J2 H2 (.refl _ _) hd2
      cases eb
      exact ⟨J2, M2, x.1, y.1, _, hd2, r1.go g2, r2, ed, _, rfl, q⟩
    · obtain ⟨b, eb, q⟩ := q
      cases eb
      exact ⟨_, rfl, q⟩
end
end MP
end

section
set_option linter.all false
set_option Elab.async false
set_option maxRecDepth 100000
set_option maxHeartbeats 4000000
namespace MP
open PySem PySem.Spec PyProof.Rows L2 Builtin Builtin.Str
/-! a[::-1] -/
section
variable {S : Cs} {Y : Ctx} {ER : ExR} {k : Nat} {W : WX} {X : Cx}
def tRevA (K : PySem.W.Frag) (te : TE) : TE := fun σ H Q => te σ H fun x H1 => (∃ a xs, x = .ref a ∧ SqL K H1 a xs ∧ ∀ p, H1 p = none → Q (.ref p) (upd H1 p (.lst xs.reverse))) ∨
  (∃ z : List Nat, x = .str (sOf z) ∧ z.length ≤ szLine ∧ Q (.str (sOf z.reverse)) H1)
theorem picked_revz (z : List Nat) : (((strSliceIndices none none (-1) (sOf z).length).filterMap ((sOf z).cps[·]?)).toArray) = z.reverse.toArray := by
  have hl : (sOf z).length = z.length := by simp [sOf, PySem.Str.length]
  rw [picked_rev, hl]
  congr 1
  rw [filterMap_get]
  · rw [List.map_map]
    apply List.ext_getElem
    · simp
    · intro i h1 h2
      simp at h1 h2
      simp [sOf, Array.getD]
      exact dif_pos (by omega)
  · intro i hi
    obtain ⟨k, hk, rfl⟩ := List.mem_map.mp hi
    have hk' : k < z.length := List.mem_range.mp hk
    show z.length - 1 - k < (sOf z).cps.size
    simp [sOf]; omega
theorem pe_revA {e : Expr} {te : TE} {k : Nat} {p1 p2 p3 pos : Pos} (he : PE X e te) : PE X (.Subscript e (.Slice none none (some (.UnaryOp .USub (.Constant (.int 1) k p1) p2)) p3) pos) (tRevA X.K te) := by
  refine ⟨fun pins s σ H Q I h => ?_⟩
  refine Subscript_ (thn (he.run pins s σ H _ I h) fun v s1 ⟨x, H1, I1, r1, q1⟩ => ?_)
  have hst : PO X (some (.UnaryOp .USub (.Constant (.int 1) k p1) p2)) (tPart (tUn (rU fun i => .int (-i)) (tC (.int 1)))) := po_some (pe_un un_neg pe_int)
  refine wpAny_Slice (thn (po_none.run pins s1 σ H1 (fun o H2 => o = none ∧ H2 = H1) I1 ⟨rfl, rfl⟩) fun vl s2 ⟨l, H2, I2, pl, el, e2⟩ => ?_)
  subst el e2
  refine thn (po_none.run pins s2 σ H2 (fun o H3 => o = none ∧ H3 = H2) I2 ⟨rfl, rfl⟩) fun vu s3 ⟨u, H3, I3, pu, eu, e3⟩ => ?_
  subst eu e3
  refine thn (hst.run pins s3 σ H3 (fun o H4 => o = some (-1) ∧ H4 = H3) I3 ⟨1, rfl, -1, rfl, rfl, rfl⟩) fun vs s4 ⟨o, H4, I4, ps, eo, e4⟩ => ?_
  subst eo e4
  have I5 : Inv X pins σ H4 { s4 with heap := s4.heap.push { cls := .type "slice", data := .fields #[vl, vu, vs] } } := I4.kept (t' := s4.toks) fun b ob q => Heap.get?_push_of_some _ q
  rcases q1 with ⟨a, xs, ex, hx, q⟩ | ⟨z, ex, hzl, q⟩
  · subst ex
    cases r1
    obtain ⟨its, r, ht, hz⟩ := I5.list hx
    have hlen := r.length
    show wpAny (model X.prog X.w) X.A (subscriptTail e (.Slice none none (some (.UnaryOp .USub (.Constant (.int 1) k p1) p2)) p3) (.ref a) (.ref s4.heap.objs.size)) (EP X pins σ Q) X.xe { s4 with heap := s4.heap.push { cls := .type "slice", data := .fields #[vl, vu, vs] } }
    refine tail_any (ops := [.ref a, .ref s4.heap.objs.size]) ht.isList.typeIs (PySem.slot_list_getitem.lookup) ?_ (by with_unfolding_all rfl)
    refine wpAny_getItem_list_slice ht.isList (Heap.IsSliceOf.new _ vl vu vs) pl pu ps (by decide) ?_ (by rw [List.size_toArray]; omega)
    rw [PySem.W.krv_pick]
    refine ⟨.ref _, _, I5.laid (t' := s4.toks) (o := .lst xs.reverse) (fun b ob q => Heap.get?_push_of_some _ q) (Nat.le_refl _) ?_, rfl, q _ (I5.hok.fresh (Nat.le_refl _))⟩
    exact ⟨by rw [List.length_reverse]; exact hz, _, 0, r.reverse, Heap.get?_push_size _ rfl⟩
  · subst ex
    obtain ⟨t, rfl⟩ := r1
    cases pl
    cases pu
    cases ps with
    | int _ tt =>
    show wpAny (model X.prog X.w) X.A (subscriptTail e (.Slice none none (some (.UnaryOp .USub (.Constant (.int 1) k p1) p2)) p3) (.str (sOf z) t) (.ref s4.heap.objs.size)) (EP X pins σ Q) X.xe { s4 with heap := s4.heap.push { cls := .type "slice", data := .fields #[.none, .none, .int (-1) tt] } }
    refine tail_any (ops := [.str (sOf z) t, .ref s4.heap.objs.size]) (typeIs_str _ (sOf z) t) (PySem.F.slot_str_getitem.lookup) ?_ (by with_unfolding_all rfl)
    refine wpAny_getItem_str_slice (l := none) (u := none) (st := some (-1, tt)) ⟨_, Heap.get?_push_size _ rfl, rfl, rfl⟩ rfl ?_
    have hm : sliceMade (sOf z) t none none (some (-1, tt)) = .str (sOf z.reverse) := by
      unfold sliceMade
      rw [if_neg (by simp)]
      unfold slicePicked
      show Made.str ⟨((strSliceIndices none none (-1) (sOf z).length).filterMap ((sOf z).cps[·]?)).toArray⟩ = _
      rw [picked_revz]
      rfl
    rw [hm]
    refine ⟨by rw [sOf_len, List.length_reverse, ← szLine_eq]; exact hzl, ?_⟩
    exact ⟨.str (sOf z.reverse), H4, I5.tok _, ⟨_, rfl⟩, q⟩
theorem e_rev {a : Expr} {ca : C} {k : Nat} {p1 p2 p3 pos : Pos} (ha : PE X a (rdB Y ER W X ca)) : PE X (.Subscript a (.Slice none none (some (.UnaryOp .USub (.Constant (.int 1) k p1) p2)) p3) pos) (rdE Y ER W X (.rev ca)) := by
  refine PE.imp (pe_revA ha) fun σ H Q h => ?_
  obtain ⟨J, M, e, hd, sl, h⟩ := h
  rw [show den Y (.rev ca) e = _ from rfl] at h
  refine rd_seqB hd sl h fun x M1 J1 H1 v g1 hd1 sl1 r1 h1 => ?_
  obtain ⟨a', e', q⟩ := orBad_some h1 hd1
  obtain ⟨d, ed, rfl⟩ := Option.map_eq_some_iff.mp e'
  obtain ⟨dx, o⟩ := x
  cases dx <;> simp only [revO, reduceCtorEq, Option.some.injEq] at ed
  · subst ed
    obtain ⟨rfl, hz, hc⟩ := r1.str_inv
    exact .inr ⟨_, rfl, hz, q J1 H1 (.refl _ _) hd1 _ (.str _ (by rw [List.length_reverse]; exact hz) fun c h => hc c (List.mem_reverse.mp h))⟩
  · subst ed
    obtain ⟨p, xs, rfl, hs, hl⟩ := r1.lst_inv hd1
    refine .inl ⟨p, xs, rfl, hs, fun p' hp => ?_⟩
    obtain ⟨gA, hdA, p0, ep0, hnA, ownA⟩ := new_own (d := .lst _) hd1 hp (.lst hl.reverse)
    cases ep0
    exact q J1 _ gA hdA _ ⟨p', rfl, none_of_not (fun z => by have := g1.keepR p' z; rw [hp] at this; cases this), ownA⟩
end
end MP
end

section
set_option linter.all false
set_option Elab.async false
set_option maxRecDepth 100000
set_option maxHeartbeats 8000000
namespace MP
open PySem PySem.Spec PyProof.Rows L2
structure SndX (Y : Ctx) (ER : ExR) (n : Nat) : Prop extends Snd Y ER n where
  dc : ∀ S ks vs cs k W X pos, cDict n S ks vs = some cs → XOk S Y ER k W X → ∃ prs : List (C × C), cs = prs.flatMap (fun p => [p.1, p.2]) ∧ prs.length = ks.length ∧ ks.length = vs.length ∧ ks.all (·.isSome) = true ∧ PPs X pos ks vs (prs.map fun p => (rdE Y ER W X p.1, rdE Y ER W X p.2))
  it : ∀ S S' n' tg it kk cs t k W X, cIt n S it = some (kk, cs) → tnOk kk t = true → cTn S' n' tg = some t → XOk S Y ER k W X → PI X tg it (rdI Y ER W X kk cs) ∧ ∀ env x, foldedSetIterable it env x = pure x
section
variable {S : Cs} {Y : Ctx} {ER : ExR} {k : Nat} {W : WX} {X : Cx}
theorem XOk.u66 (ok : XOk S Y ER k W X) : X.A.units + 66 < cLine := by have := ok.room.un; omega
theorem XOk.u1 (ok : XOk S Y ER k W X) : X.A.units + 1 < cLine := by have := ok.room.un; omega
theorem snd_es {n : Nat} (ih : SndX Y ER n) {es : List Expr} {cs : List C} (h : cEs (n + 1) S es = some cs) (ok : XOk S Y ER k W X) : PA X es (rdL Y ER W X cs) ∧ NoStar es := by
  cases es with
  | nil => simp [cEs] at h; subst h; exact ⟨a_nil, NoStar.nil⟩
  | cons a r =>
    simp only [cEs] at h
    obtain ⟨c, hc, h⟩ := Option.bind_eq_some_iff.mp h
    obtain ⟨cs', hcs, rfl⟩ := Option.map_eq_some_iff.mp h
    obtain ⟨h1, h2⟩ := ih.es S r cs' k W X hcs ok
    have ns := nostar hc
    exact ⟨a_cons (ih.e S a c k W X hc ok) h1 (ns _ _), NoStar.cons ns h2⟩
theorem snd_kw {n : Nat} (ih : SndX Y ER n) {kws : List Keyword} {kvs : List (Str × C)} (h : cKw (n + 1) S kws = some kvs) (ok : XOk S Y ER k W X) :
    PK X kws (rdL Y ER W X (kvs.map (·.2))) ∧ ∀ env, ∃ ts, keywordEach kws env = (kvs.map (·.1)).zipWith (fun x t => (some x, t)) ts ∧ ts.length = kvs.length := by
  cases kws with
  | nil => simp [cKw] at h; subst h; exact ⟨k_nil, fun env => ⟨[], rfl, rfl⟩⟩
  | cons a r =>
    obtain ⟨nm, a, kp⟩ := a
    cases nm with
    | none => simp [cKw] at h
    | some x =>
      simp only [cKw] at h
      obtain ⟨c, hc, h⟩ := Option.bind_eq_some_iff.mp h
      obtain ⟨cs', hcs, rfl⟩ := Option.map_eq_some_iff.mp h
      obtain ⟨h1, h2⟩ := ih.kw S r cs' k W X hcs ok
      refine ⟨k_cons (ih.e S a c k W X hc ok) h1, fun env => ?_⟩
      obtain ⟨ts, e1, e2⟩ := h2 env
      exact ⟨eval a env :: ts, by rw [show keywordEach (⟨some x, a, kp⟩ :: r) env = (some x, eval a env) :: keywordEach r env from rfl, e1]; rfl, by simp [e2]⟩
theorem snd_dc {n : Nat} (ih : SndX Y ER n) {ks : List (Option Expr)} {vs : List Expr} {cs : List C} {pos : Pos} (h : cDict (n + 1) S ks vs = some cs) (ok : XOk S Y ER k W X) :
    ∃ prs : List (C × C), cs = prs.flatMap (fun p => [p.1, p.2]) ∧ prs.length = ks.length ∧ ks.length = vs.length ∧ ks.all (·.isSome) = true ∧ PPs X pos ks vs (prs.map fun p => (rdE Y ER W X p.1, rdE Y ER W X p.2)) := by
  match ks, vs, h with
  | [], [], h => simp [cDict] at h; subst h; exact ⟨[], rfl, rfl, rfl, rfl, pps_nil⟩
  | some a :: ks, b :: vs, h =>
    simp only [cDict] at h
    obtain ⟨c1, h1, h⟩ := Option.bind_eq_some_iff.mp h
    obtain ⟨c2, h2, h⟩ := Option.bind_eq_some_iff.mp h
    obtain ⟨cs', hcs, rfl⟩ := Option.map_eq_some_iff.mp h
    obtain ⟨prs, e1, e2, e3, e4, e5⟩ := ih.dc S ks vs cs' k W X pos hcs ok
    exact ⟨(c1, c2) :: prs, by simp [e1], by simp [e2], by simp [e3], by simp [e4], pps_cons (ih.e S a c1 k W X h1 ok) (ih.e S b c2 k W X h2 ok) e5⟩
  | [], _ :: _, h => simp [cDict] at h
  | some _ :: _, [], h => simp [cDict] at h
  | none :: _, _, h => simp [cDict] at h
theorem snd_b {n : Nat} (ih : SndX Y ER n) {e : Expr} {c : C} (h : cB (n + 1) S e = some c) (ok : XOk S Y ER k W X) : PE X e (rdB Y ER W X c) := by
  unfold cB at h
  split at h
  · split at h
    · exact b_name (n := 0) ok h
    · exact PE.b (ih.e S _ c k W X h ok)
  · exact PE.b (ih.e S _ c k W X h ok)
theorem snd_o {n : Nat} (ih : SndX Y ER n) {e : Option Expr} {c : C} (h : cO (n + 1) S e = some c) (ok : XOk S Y ER k W X) : (e = none ∧ c = .non) ∨ ∃ e', e = some e' ∧ c ≠ .non ∧ PE X e' (rdE Y ER W X c) := by
  cases e with
  | none => simp [cO] at h; exact .inl ⟨rfl, h.symm⟩
  | some e =>
    simp only [cO] at h
    obtain ⟨c1, h1, h⟩ := Option.bind_eq_some_iff.mp h
    refine .inr ⟨e, rfl, ?_⟩
    split at h
    · cases h
    · rename_i hne
      cases h
      exact ⟨fun z => hne z, ih.e S e _ k W X h1 ok⟩
theorem snd_bl {n : Nat} (ih : SndX Y ER n) {o : BoolOp} {es : List Expr} {c : C} {pos : Pos} (h : cBool (n + 1) S o es = some c) (ok : XOk S Y ER k W X) : PE X (.BoolOp o es pos) (rdE Y ER W X c) ∧ PW X (.BoolOp o es pos) (rdT Y ER W X c) := by
  match es, h with
  | [], h => simp [cBool] at h
  | [a], h =>
    have h : cE n S a = some c := by simpa [cBool] using h
    exact b1 (ih.e S a c k W X h ok) (ih.t S a c k W X h ok)
  | a :: b :: r, h =>
    simp only [cBool] at h
    obtain ⟨c1, h1, h⟩ := Option.bind_eq_some_iff.mp h
    obtain ⟨c2, h2, e⟩ := Option.map_eq_some_iff.mp h
    obtain ⟨p1, p2⟩ := ih.bl S o (b :: r) c2 pos k W X h2 ok
    have := b2 (o := o) (pos := pos) (ih.e S a c1 k W X h1 ok) (ih.t S a c1 k W X h1 ok) p1 p2
    cases o <;> (subst e; exact this)
theorem cTn_tup {n : Nat} {e : Expr} {kk : ItK} {t : Tn} (h : cTn S n e = some t) (hk : tnOk kk t = true) (hz : kk = .zip ∨ kk = .enum) : ∃ elts k pos, e = .Tuple elts k pos := by
  cases n with
  | zero => simp [cTn] at h
  | succ n =>
    cases e <;> simp only [cTn, reduceCtorEq] at h
    · exfalso
      have : ∃ i, t = .name i := by
        split at h
        · cases h
        · split at h
          · obtain ⟨i, _, rfl⟩ := Option.map_eq_some_iff.mp h; exact ⟨i, rfl⟩
          · obtain ⟨i, _, rfl⟩ := Option.map_eq_some_iff.mp h; exact ⟨i, rfl⟩
          · cases h
      obtain ⟨i, rfl⟩ := this
      rcases hz with rfl | rfl <;> cases hk
    · exact ⟨_, _, _, rfl⟩
theorem nofold {n : Nat} {e : Expr} {c : C} (h : cE n S e = some c) : ∀ env x, foldedSetIterable e env x = pure x := by
  intro env x
  cases e <;> first | rfl | skip
  cases n <;> simp [cE] at h
theorem isB_eq {f : Str} {y : String} (h : isB S f y = true) : f = PySem.Str.ofString y ∧ isGl S f = true := by
  simp only [isB, Bool.and_eq_true] at h
  exact ⟨eq_of_beq h.1, h.2⟩
theorem snd_it {n : Nat} (ih : SndX Y ER n) {S' : Cs} {n' : Nat} {tg it : Expr} {kk : ItK} {cs : List C} {t : Tn} (h : cIt (n + 1) S it = some (kk, cs)) (hk : tnOk kk t = true) (ht : cTn S' n' tg = some t) (ok : XOk S Y ER k W X) :
    PI X tg it (rdI Y ER W X kk cs) ∧ ∀ env x, foldedSetIterable it env x = pure x := by
  have sq : (cE n S it).map (fun a => (ItK.seq, [a])) = some (kk, cs) → PI X tg it (rdI Y ER W X kk cs) ∧ ∀ env x, foldedSetIterable it env x = pure x := by
    intro h
    obtain ⟨c, hc, e⟩ := Option.map_eq_some_iff.mp h
    cases e
    exact ⟨i_seq (ih.e S it c k W X hc ok), nofold hc⟩
  unfold cIt at h
  split at h
  · rename_i f p es pos
    split at h
    · rename_i hr
      obtain ⟨rfl, hg⟩ := isB_eq hr
      split at h
      · rename_i a
        obtain ⟨c, hc, e⟩ := Option.map_eq_some_iff.mp h
        cases e
        exact ⟨i_rng1 ok hg (ih.e S a c k W X hc ok) (nostar hc), fun _ _ => rfl⟩
      · rename_i a b
        obtain ⟨c, hc, h⟩ := Option.bind_eq_some_iff.mp h
        obtain ⟨c2, hc2, e⟩ := Option.map_eq_some_iff.mp h
        cases e
        exact ⟨i_rng2 ok hg (ih.e S a c k W X hc ok) (ih.e S b c2 k W X hc2 ok) (nostar hc) (nostar hc2), fun _ _ => rfl⟩
      · cases h
    · split at h
      · rename_i hr
        obtain ⟨rfl, hg⟩ := isB_eq hr
        split at h
        · rename_i a b
          obtain ⟨c, hc, h⟩ := Option.bind_eq_some_iff.mp h
          obtain ⟨c2, hc2, e⟩ := Option.map_eq_some_iff.mp h
          cases e
          obtain ⟨elts, kt, tp, rfl⟩ := cTn_tup ht hk (.inl rfl)
          exact ⟨i_zip ok hg (ih.e S a c k W X hc ok) (ih.e S b c2 k W X hc2 ok) (nostar hc) (nostar hc2), fun _ _ => rfl⟩
        · cases h
      · split at h
        · rename_i hr
          obtain ⟨rfl, hg⟩ := isB_eq hr
          split at h
          · rename_i a
            obtain ⟨c, hc, e⟩ := Option.map_eq_some_iff.mp h
            cases e
            obtain ⟨elts, kt, tp, rfl⟩ := cTn_tup ht hk (.inr rfl)
            exact ⟨i_enum ok hg (ih.e S a c k W X hc ok) (nostar hc), fun _ _ => rfl⟩
          · cases h
        · exact sq h
  · exact sq h
end
end MP
end

section
set_option linter.all false
set_option Elab.async false
set_option maxRecDepth 100000
set_option maxHeartbeats 8000000
namespace MP
open PySem PySem.Spec PyProof.Rows L2
section
variable {S : Cs} {Y : Ctx} {ER : ExR} {k : Nat} {W : WX} {X : Cx}
theorem snd_rg {n : Nat} (ih : SndX Y ER n) {a : Expr} {c : C} {p pos : Pos} (h : cRg (n + 1) S a = some c) (hr : isRg S a = true) (hg : isGl S "list" = true) (ok : XOk S Y ER k W X) : PE X (.Call (.Name "list" p) [a] [] pos) (rdE Y ER W X c) := by
  unfold cRg at h
  split at h
  · obtain ⟨hx, hg2⟩ := isB_eq (show isB S _ "range" = true from hr)
    subst hx
    obtain ⟨c1, hc, rfl⟩ := Option.map_eq_some_iff.mp h
    exact e_rg1 ok hg hg2 (ih.e S _ c1 k W X hc ok) (nostar hc)
  · obtain ⟨hx, hg2⟩ := isB_eq (show isB S _ "range" = true from hr)
    subst hx
    obtain ⟨c1, hc, h⟩ := Option.bind_eq_some_iff.mp h
    obtain ⟨c2, hc2, rfl⟩ := Option.map_eq_some_iff.mp h
    exact e_rg2 ok hg hg2 (ih.e S _ c1 k W X hc ok) (ih.e S _ c2 k W X hc2 ok) (nostar hc) (nostar hc2)
  · cases h
theorem snd_bi {n : Nat} (ih : ∀ m ≤ n, SndX Y ER m) {f : Str} {es : List Expr} {c : C} {p pos : Pos} (h : cBi (n + 1) S f es = some c) (hg : isGl S f = true) (ok : XOk S Y ER k W X) : PE X (.Call (.Name f p) es [] pos) (rdE Y ER W X c) := by
  unfold cBi at h
  split at h
  · split at h
    · rename_i hf
      simp only [Bool.and_eq_true] at hf
      have := eq_of_beq hf.1
      subst this
      cases n with
      | zero => simp [cRg] at h
      | succ n => exact snd_rg (ih n (by omega)) h hf.2 hg ok
    · obtain ⟨b, hb, h⟩ := Option.bind_eq_some_iff.mp h
      obtain ⟨c1, hc, rfl⟩ := Option.map_eq_some_iff.mp h
      obtain ⟨v, h1, h2, h3, h4, h5, h6⟩ := bi1_ok ok hb
      split at hc
      · exact e_bi1 ok h1 h2 h3 hg h4 h5 h6 ((ih n (Nat.le_refl _)).b S _ c1 k W X hc ok) (nostarB hc)
      · exact e_bi1 ok h1 h2 h3 hg h4 h5 h6 (PE.b ((ih n (Nat.le_refl _)).e S _ c1 k W X hc ok)) (nostar hc)
  · split at h
    · rename_i hf
      have := eq_of_beq hf
      subst this
      split at h
      · split at h
        · rename_i hgt
          obtain ⟨t, ht, h⟩ := Option.bind_eq_some_iff.mp h
          obtain ⟨c1, hc, rfl⟩ := Option.map_eq_some_iff.mp h
          have hb := (ih n (Nat.le_refl _)).b S _ c1 k W X hc ok
          unfold tyOf' at ht
          split at ht
          · rename_i hx
            cases ht
            exact e_isiO ok hg hx hgt (.inl ⟨rfl, rfl⟩) hb (nostarB hc)
          · rename_i hx
            cases ht
            exact e_isiO ok hg hx hgt (.inr ⟨rfl, rfl⟩) hb (nostarB hc)
          · cases ht
          · obtain ⟨h1, h2, h3⟩ := tyOf_ok ht
            exact e_isi ok hg h1 hgt h2 (ok.blt _ h3) hb (nostarB hc)
        · cases h
      · cases h
    · obtain ⟨b, hb, h⟩ := Option.bind_eq_some_iff.mp h
      obtain ⟨c1, hc, h⟩ := Option.bind_eq_some_iff.mp h
      obtain ⟨c2, hc2, rfl⟩ := Option.map_eq_some_iff.mp h
      obtain ⟨v, h1, h3, h4, h5, h6⟩ := bi2_ok ok hb
      exact e_bi2 ok h1 h3 hg h4 h5 h6 ((ih n (Nat.le_refl _)).e S _ c1 k W X hc ok) ((ih n (Nat.le_refl _)).e S _ c2 k W X hc2 ok) (nostar hc) (nostar hc2)
  · cases h
theorem snd_call {n : Nat} (ih : ∀ m ≤ n, SndX Y ER m) {f : Str} {es : List Expr} {kws : List Keyword} {c : C} {p pos : Pos} (h : cCallN (n + 1) S f es kws = some c) (hg : isGl S f = true) (ok : XOk S Y ER k W X) : PE X (.Call (.Name f p) es kws pos) (rdE Y ER W X c) := by
  unfold cCallN at h
  split at h
  · split at h
    · rename_i ps hps
      split at h
      · rename_i hl
        obtain ⟨cs, hcs, rfl⟩ := Option.map_eq_some_iff.mp h
        obtain ⟨h1, h2⟩ := (ih n (Nat.le_refl _)).es S es cs k W X hcs ok
        exact e_call ok hps hg h1 h2 (eq_of_beq hl) (cEs_len hcs).1
      · cases h
    · cases n with
      | zero => simp [cBi] at h
      | succ n => exact snd_bi (fun m hm => ih m (by omega)) h hg ok
  · obtain ⟨ps, hps, h⟩ := Option.bind_eq_some_iff.mp h
    obtain ⟨cs, hcs, h⟩ := Option.bind_eq_some_iff.mp h
    obtain ⟨kvs, hk, h⟩ := Option.bind_eq_some_iff.mp h
    split at h
    · rename_i hc
      obtain ⟨pm, hpm, rfl⟩ := Option.map_eq_some_iff.mp h
      simp only [Bool.and_eq_true] at hc
      rw [(cEs_len hcs).1] at hc hpm
      obtain ⟨h1, h2⟩ := (ih n (Nat.le_refl _)).es S es cs k W X hcs ok
      obtain ⟨k1, k2⟩ := (ih n (Nat.le_refl _)).kw S kws kvs k W X hk ok
      exact e_callp ok hps hg h1 h2 (cEs_len hcs).1 k1 k2 (by simpa using hc.1) (eq_of_beq hc.2) hpm
    · cases h
theorem snd_make {n : Nat} (ih : ∀ m ≤ n, SndX Y ER m) {f : Str} {cc : Nat} {es : List Expr} {kws : List Keyword} {c : C} {p pos : Pos} (h : cMake (n + 1) S cc es kws = some c) (hcl : S.clss.lookup f = some cc) (hg : isGl S f = true) (ok : XOk S Y ER k W X) : PE X (.Call (.Name f p) es kws pos) (rdE Y ER W X c) := by
  unfold cMake at h
  split at h
  · obtain ⟨m, hm, h⟩ := Option.bind_eq_some_iff.mp h
    obtain ⟨c1, hc, rfl⟩ := Option.map_eq_some_iff.mp h
    exact e_make ok hcl hg hm ((ih n (Nat.le_refl _)).e S _ c1 k W X hc ok) (nostar hc)
  · split at h
    · rename_i hp
      obtain ⟨m, hm, h⟩ := Option.bind_eq_some_iff.mp h
      obtain ⟨c1, hc, rfl⟩ := Option.map_eq_some_iff.mp h
      exact e_makeK ok hcl hg hm (eq_of_beq hp) ((ih n (Nat.le_refl _)).e S _ c1 k W X hc ok)
    · cases h
  · cases h
theorem snd_meth {n : Nat} (ih : ∀ m ≤ n, SndX Y ER m) {r : Expr} {m : Str} {es : List Expr} {kws : List Keyword} {c : C} {ap cp : Pos} (h : cMeth (n + 1) S r m es kws = some c) (hs : noSup r = true) (hl : (ap.endLine == cp.line) = true) (hn : es.length + kws.length ≤ 5) (ok : XOk S Y ER k W X) : PE X (.Call (.Attribute r m ap) es kws cp) (rdE Y ER W X c) := by
  unfold cMeth at h
  obtain ⟨ps, hps, h⟩ := Option.bind_eq_some_iff.mp h
  obtain ⟨cs, hcs, h⟩ := Option.bind_eq_some_iff.mp h
  obtain ⟨kvs, hk, h⟩ := Option.bind_eq_some_iff.mp h
  split at h
  · rename_i hc
    simp only [Bool.and_eq_true, decide_eq_true_eq] at hc
    obtain ⟨⟨c1, c2⟩, c3⟩ := hc
    obtain ⟨pm, hpm, h⟩ := Option.bind_eq_some_iff.mp h
    obtain ⟨h1, h2⟩ := (ih n (Nat.le_refl _)).es S es cs k W X hcs ok
    obtain ⟨k1, k2⟩ := (ih n (Nat.le_refl _)).kw S kws kvs k W X hk ok
    have ao : ArgsOk X Y ER W es kws cs kvs ps pm := ⟨h1, h2, (cEs_len hcs).1, k1, k2, c1, fun y hy => List.contains_iff_mem.mp (List.all_eq_true.mp c2 y hy), eq_of_beq c3, hpm⟩
    have fin : ∀ {r : Expr} {c : C}, noSup r = true → (if m == "read" || propT.contains m then none else (cE n S r).map fun r => C.meth m r (cs ++ kvs.map (·.2)) pm) = some c → PE X (.Call (.Attribute r m ap) es kws cp) (rdE Y ER W X c) := by
      intro r c hs h
      split at h
      · cases h
      · rename_i hm
        simp only [Bool.not_eq_true, Bool.or_eq_false_iff] at hm
        obtain ⟨cr, hr, rfl⟩ := Option.map_eq_some_iff.mp h
        exact e_meth ok ((ih n (Nat.le_refl _)).e S _ cr k W X hr ok) hs hl hn ao hps hm.1 hm.2
    split at h
    · split at h
      · rename_i hg
        obtain ⟨cc, hcl, h⟩ := Option.bind_eq_some_iff.mp h
        split at h
        · rename_i hrd
          obtain ⟨m', hm, rfl⟩ := Option.map_eq_some_iff.mp h
          exact e_cmeth ok hcl hg hl hn ao hps hrd hm
        · cases h
      · exact fin hs h
    · exact fin hs h
  · cases h
theorem pts_of {n : Nat} (ih : ∀ m ≤ n, SndX Y ER m) {cond : List Expr} {cs : List C} (h : cEs n S cond = some cs) (hl : cond.length ≤ 1) (ok : XOk S Y ER k W X) :
    PTs X cond (rdTs Y ER W X cs) := by
  cases n with
  | zero => simp [cEs] at h
  | succ n =>
    match cond, h, hl with
    | [], h, _ =>
      simp [cEs] at h; subst h
      refine ⟨fun pins s σ H Q I q => pts_nil.run pins s σ H Q I ?_⟩
      obtain ⟨J, M, e, hd, sl, q⟩ := q
      exact q J H (.refl _ _) hd
    | [a], h, _ =>
      simp only [cEs] at h
      obtain ⟨c, hc, h⟩ := Option.bind_eq_some_iff.mp h
      obtain ⟨cs', hcs, rfl⟩ := Option.map_eq_some_iff.mp h
      have : cs' = [] := by
        cases n with
        | zero => simp [cEs] at hcs
        | succ n => simpa [cEs] using hcs.symm
      subst this
      have ht := (ih n (by omega)).t S a c k W X hc ok
      refine ⟨fun pins s σ H Q I q => (pts_one ht).run pins s σ H Q I ?_⟩
      obtain ⟨J, M, e, hd, sl, q⟩ := q
      have e1 : denT Y [c] e = MM.bind (den Y c e) fun x => match x.1 with
        | .bl true => denT Y [] e
        | .bl false => MM.pure false
        | _ => bad := rfl
      rw [e1] at q
      refine rd_seqT hd sl q (fun x M1 hx => ?_) fun b o M1 J1 H1 g1 hd1 sl1 h1 => ?_
      · obtain ⟨d, o⟩ := x
        cases d <;> first | rfl | exact absurd rfl (hx _)
      · cases b with
        | true => exact h1 J1 H1 (.refl _ _) hd1
        | false => exact h1 J1 H1 (.refl _ _) hd1
    | _ :: _ :: _, _, hl => simp at hl
theorem nomarkE {e : Expr} {op : CmpOp} {n : Nat} {c : C} (h : cE n S e = some c) : behindInMarks op e = false := by
  cases e <;> first | rfl | skip
  cases n <;> simp [cE] at h
theorem snd_main {n : Nat} (hn : n ≤ szLine) (ih : ∀ m ≤ n, SndX Y ER m) {e : Expr} {c : C} (h : cE (n + 1) S e = some c) (ok : XOk S Y ER k W X) : PE X e (rdE Y ER W X c) ∧ PT X e (rdT Y ER W X c) := by
  have I := ih n (Nat.le_refl _)
  have val : ∀ {c : C} {e : Expr}, PE X e (rdE Y ER W X c) → (∀ whole, isTrue e X.env whole = (do let v ← whole; standAt e.pos; holding [v] (truthy v))) → PE X e (rdE Y ER W X c) ∧ PT X e (rdT Y ER W X c) := fun p q => ⟨p, t_val p q⟩
  have h0 := h
  unfold cE at h
  split at h
  · exact e_const (e := .Tuple [] 0 default) h0
  · exact e_const (e := .Tuple [] 0 default) h0
  · exact e_const (e := .Tuple [] 0 default) h0
  · exact e_const (e := .Tuple [] 0 default) h0
  · exact e_name ok h0
  · obtain ⟨o, ho, h⟩ := Option.bind_eq_some_iff.mp h
    obtain ⟨c1, h1, h⟩ := Option.bind_eq_some_iff.mp h
    obtain ⟨c2, h2, rfl⟩ := Option.map_eq_some_iff.mp h
    exact val (e_bin ho (I.e S _ c1 k W X h1 ok) (I.e S _ c2 k W X h2 ok)) fun _ => rfl
  · obtain ⟨c1, h1, rfl⟩ := Option.map_eq_some_iff.mp h
    exact val (e_neg (I.e S _ c1 k W X h1 ok)) fun _ => rfl
  · obtain ⟨c1, h1, rfl⟩ := Option.map_eq_some_iff.mp h
    exact e_not (I.e S _ c1 k W X h1 ok) (I.t S _ c1 k W X h1 ok)
  · obtain ⟨p1, p2⟩ := I.bl S _ _ c _ k W X h ok
    exact ⟨p1, p2.pt⟩
  · obtain ⟨o, ho, h⟩ := Option.bind_eq_some_iff.mp h
    obtain ⟨c1, h1, h⟩ := Option.bind_eq_some_iff.mp h
    obtain ⟨c2, h2, rfl⟩ := Option.map_eq_some_iff.mp h
    exact e_cmp ok ho ok.u66 (I.b S _ c1 k W X h1 ok) (I.b S _ c2 k W X h2 ok) (nomark' h2)
  · obtain ⟨o, ho, h⟩ := Option.bind_eq_some_iff.mp h
    obtain ⟨o', ho', h⟩ := Option.bind_eq_some_iff.mp h
    obtain ⟨c1, h1, h⟩ := Option.bind_eq_some_iff.mp h
    obtain ⟨c2, h2, h⟩ := Option.bind_eq_some_iff.mp h
    obtain ⟨c3, h3, rfl⟩ := Option.map_eq_some_iff.mp h
    refine e_chain ho ho' ok.u66 (I.e S _ c1 k W X h1 ok) (I.e S _ c2 k W X h2 ok) (I.e S _ c3 k W X h3 ok) ?_
    exact nomarkE h3
  · obtain ⟨c1, h1, h⟩ := Option.bind_eq_some_iff.mp h
    obtain ⟨c2, h2, h⟩ := Option.bind_eq_some_iff.mp h
    obtain ⟨c3, h3, rfl⟩ := Option.map_eq_some_iff.mp h
    exact e_ite (I.t S _ c1 k W X h1 ok) (I.e S _ c2 k W X h2 ok) (I.e S _ c3 k W X h3 ok) (I.t S _ c2 k W X h2 ok) (I.t S _ c3 k W X h3 ok)
  · obtain ⟨cs, hcs, rfl⟩ := Option.map_eq_some_iff.mp h
    have hl := cEs_len hcs
    exact val (e_tup (I.es S _ cs k W X hcs ok).1 (by omega)) fun _ => rfl
  · obtain ⟨cs, hcs, rfl⟩ := Option.map_eq_some_iff.mp h
    have hl := cEs_len hcs
    exact val (e_lst (I.es S _ cs k W X hcs ok).1 (by omega)) fun _ => rfl
  · split at h
    · rename_i h15
      obtain ⟨cs, hcs, rfl⟩ := Option.map_eq_some_iff.mp h
      obtain ⟨prs, rfl, e2, e3, e4, e5⟩ := I.dc S _ _ cs k W X _ hcs ok
      exact val (e_dct e5 e4 e3 h15 e2) fun _ => rfl
    · cases h
  · obtain ⟨c1, h1, rfl⟩ := Option.map_eq_some_iff.mp h
    exact val (e_rev (I.b S _ c1 k W X h1 ok)) fun _ => rfl
  · obtain ⟨c1, h1, h⟩ := Option.bind_eq_some_iff.mp h
    obtain ⟨c2, h2, h⟩ := Option.bind_eq_some_iff.mp h
    obtain ⟨c3, h3, rfl⟩ := Option.map_eq_some_iff.mp h
    exact val (e_slc (I.b S _ c1 k W X h1 ok) (I.o S _ c2 k W X h2 ok) (I.o S _ c3 k W X h3 ok)) fun _ => rfl
  · obtain ⟨c1, h1, h⟩ := Option.bind_eq_some_iff.mp h
    obtain ⟨c2, h2, rfl⟩ := Option.map_eq_some_iff.mp h
    exact val (e_idx ok.u1 (I.b S _ c1 k W X h1 ok) (I.e S _ c2 k W X h2 ok) (plainix h2)) fun _ => rfl
  · obtain ⟨kc, hk, h⟩ := Option.bind_eq_some_iff.mp h
    obtain ⟨t, ht, h⟩ := Option.bind_eq_some_iff.mp h
    obtain ⟨el, hel, h⟩ := Option.bind_eq_some_iff.mp h
    obtain ⟨cond, hcd, h⟩ := Option.bind_eq_some_iff.mp h
    split at h
    · rename_i hc
      cases h
      simp only [Bool.and_eq_true, decide_eq_true_eq] at hc
      obtain ⟨⟨⟨c1, c2⟩, c3⟩, c4⟩ := hc
      obtain ⟨i1, i2⟩ := I.it S _ n _ _ kc.1 kc.2 t k W X hk c1 ht ok
      have hl := cEs_len hcd
      exact val (e_lc ok i1 c3 c2 (fun ok' => pg_tn n ht ok') (fun ok' => I.e _ _ el _ _ _ hel ok') (fun ok' => pts_of ih hcd (by omega) ok') i2) fun _ => rfl
    · cases h
  · obtain ⟨kc, hk, h⟩ := Option.bind_eq_some_iff.mp h
    obtain ⟨t, ht, h⟩ := Option.bind_eq_some_iff.mp h
    obtain ⟨cond, hcd, h⟩ := Option.bind_eq_some_iff.mp h
    obtain ⟨kc1, hk1, h⟩ := Option.bind_eq_some_iff.mp h
    obtain ⟨t1, ht1, h⟩ := Option.bind_eq_some_iff.mp h
    obtain ⟨cond1, hcd1, h⟩ := Option.bind_eq_some_iff.mp h
    obtain ⟨el, hel, h⟩ := Option.bind_eq_some_iff.mp h
    split at h
    · rename_i hc
      cases h
      simp only [Bool.and_eq_true, decide_eq_true_eq] at hc
      obtain ⟨⟨⟨⟨c1, c1'⟩, ⟨c2, c2'⟩⟩, c3⟩, ⟨c4, c4'⟩⟩ := hc
      obtain ⟨i1, i2⟩ := I.it S _ n _ _ kc.1 kc.2 t k W X hk c1 ht ok
      have hl := cEs_len hcd
      have hl1 := cEs_len hcd1
      exact val (e_lc2 ok i1 c3 c2 c2' (fun ok' => pg_tn n ht ok') (fun ok' => pts_of ih hcd (by omega) ok') (fun ok' => (I.it _ _ n _ _ kc1.1 kc1.2 t1 _ _ _ hk1 c1' ht1 ok').1) (fun ok' => pg_tn n ht1 ok') (fun ok' => pts_of ih hcd1 (by omega) ok') (fun ok' => I.e _ _ el _ _ _ hel ok') i2 (fun ok' => (I.it _ _ n _ _ kc1.1 kc1.2 t1 _ _ _ hk1 c1' ht1 ok').2)) fun _ => rfl
    · cases h
  · split at h
    · rename_i hc
      simp only [Bool.and_eq_true] at hc
      obtain ⟨c1, h1, rfl⟩ := Option.map_eq_some_iff.mp h
      exact val (e_attr ok (I.e S _ c1 k W X h1 ok) hc.1 hc.2) fun _ => rfl
    · cases h
  · split at h
    · rename_i hg
      split at h
      · rename_i cc hcl
        cases n with
        | zero => simp [cMake] at h
        | succ n => exact val (snd_make (fun m hm => ih m (by omega)) h hcl hg ok) fun _ => rfl
      · cases n with
        | zero => simp [cCallN] at h
        | succ n => exact val (snd_call (fun m hm => ih m (by omega)) h hg ok) fun _ => rfl
    · cases h
  · split at h
    · rename_i mt hm
      split at h
      · split at h
        · rename_i hc
          obtain ⟨co, ho, h⟩ := Option.bind_eq_some_iff.mp h
          obtain ⟨cs, hcs, rfl⟩ := Option.map_eq_some_iff.mp h
          simp only [Bool.and_eq_true, decide_eq_true_eq] at hc
          obtain ⟨⟨c1, c2⟩, c3, c4⟩ := hc
          obtain ⟨p1, p2⟩ := I.es S _ cs k W X hcs ok
          exact val (e_mth ok hm c1 c2 c3 (I.b S _ co k W X ho ok) p1 p2 c4) fun _ => rfl
        · cases h
      · cases h
    · split at h
      · rename_i hc
        simp only [Bool.and_eq_true, decide_eq_true_eq] at hc
        obtain ⟨c2, c3, c4⟩ := hc
        cases n with
        | zero => simp [cMeth] at h
        | succ n => exact val (snd_meth (fun m hm => ih m (by omega)) h c2 c3 c4 ok) fun _ => rfl
      · cases h
  · cases h
theorem snd_zero : SndX Y ER 0 := by
  refine { e := ?_, t := ?_, b := ?_, o := ?_, bl := ?_, es := ?_, kw := ?_, dc := ?_, it := ?_ }
  · intro S e c k W X h; simp [cE] at h
  · intro S e c k W X h; simp [cE] at h
  · intro S e c k W X h; simp [cB] at h
  · intro S e c k W X h; simp [cO] at h
  · intro S o es c pos k W X h; simp [cBool] at h
  · intro S es cs k W X h; simp [cEs] at h
  · intro S es cs k W X h; simp [cKw] at h
  · intro S ks vs cs k W X pos h; simp [cDict] at h
  · intro S S' n' tg it kk cs t k W X h; simp [cIt] at h
theorem snd_all : ∀ n, n ≤ szLine → SndX Y ER n := by
  intro n
  induction n using Nat.strongRecOn with
  | _ n ih =>
    intro hn
    cases n with
    | zero => exact snd_zero
    | succ n =>
      have ih' : ∀ m ≤ n, SndX Y ER m := fun m hm => ih m (by omega) (by omega)
      have I := ih' n (Nat.le_refl _)
      exact { e := fun S e c k W X h ok => (snd_main (by omega) ih' h ok).1, t := fun S e c k W X h ok => (snd_main (by omega) ih' h ok).2, b := fun S e c k W X h ok => snd_b I h ok,
              o := fun S e c k W X h ok => snd_o I h ok, bl := fun S o es c pos k W X h ok => snd_bl I h ok, es := fun S es cs k W X h ok => snd_es I h ok, kw := fun S es cs k W X h ok => snd_kw I h ok,
              dc := fun S ks vs cs k W X pos h ok => snd_dc I h ok, it := fun S S' n' tg it kk cs t k W X h hk ht ok => snd_it I h hk ht ok }
end
end MP
end

section
set_option linter.all false
set_option Elab.async false
set_option maxRecDepth 100000
set_option maxHeartbeats 8000000
namespace MP
open PySem PySem.Spec PyProof.Rows L2
section
variable {S : Cs} {Y : Ctx} {ER : ExR} {k : Nat} {W : WX} {X : Cx} {J0 : Jt} {H0 : Hp}
/-- where a frame stands -/
structure At (X : Cx) (J0 : Jt) (H0 : Hp) (J : Jt) (M : Mem) (H : Hp) (σ : L2.St) (e : MP.Env) : Prop where
  go : Go J0 H0 J H
  hd : Hold X.K X.w J M H
  sl : Slots X.K X.w J H σ e
  new : ∀ (i : Nat) (d : D) (a : Addr), e[i]? = some (some (d, true)) → σ[i]? = some (some (V.ref a)) → H0 a = none
/-- what is wanted behind a statement -/
def FinS (X : Cx) (ER : ExR) (W : WX) (J0 : Jt) (H0 : Hp) (J : Jt) (En : Ends) (r : R Fl) : Prop := match r with
  | .ok (.nx e') M' => ∀ σ' J' H', At X J0 H0 J' M' H' σ' e' → Ext J J' → En.nx σ' H'
  | .ok (.rt d own) M' => ∀ J' H', Go J0 H0 J' H' → Hold X.K X.w J' M' H' → ∀ v, RepO X.K X.w J' H0 H' v d own → En.rt v H'
  | .exc c p M' => ∀ cv dd σ' J' H', Go J0 H0 J' H' → Hold X.K X.w J' M' H' → ER c p J' H' cv dd → W cv dd σ' H'
  | .bad => False
theorem FinS.ext {J J1 : Jt} {En : Ends} {r : R Fl} (h : FinS X ER W J0 H0 J En r) (x : Ext J J1) : FinS X ER W J0 H0 J1 En r := by
  unfold FinS at h ⊢
  match r, h with
  | .ok (.nx e') M', h => exact fun σ' J' H' a y => h σ' J' H' a (x.trans y)
  | .ok (.rt d own) M', h => exact h
  | .exc c p M', h => exact h
def rdS (ER : ExR) (W : WX) (X : Cx) (J0 : Jt) (H0 : Hp) (F : MP.Env → MM Fl) : TS := fun D σ H => ∃ J M e, At X J0 H0 J M H σ e ∧ FinS X ER W J0 H0 J D (F e M)
theorem At.on {J J1 : Jt} {M M1 : Mem} {H H1 : Hp} {σ : L2.St} {e : MP.Env} (a : At X J0 H0 J M H σ e) (g : Go J H J1 H1) (hd : Hold X.K X.w J1 M1 H1) : At X J0 H0 J1 M1 H1 σ e := ⟨a.go.trans g, hd, a.sl.go g, a.new⟩
theorem PS.imp {s : Stmt} {t t' : TS} (h : PS X s t) (f : ∀ D σ H, t' D σ H → t D σ H) : PS X s t' := ⟨fun pins s σ H D I q => h.run pins s σ H D I (f D σ H q)⟩
theorem PSs.imp {s : List Stmt} {t t' : TS} (h : PSs X s t) (f : ∀ D σ H, t' D σ H → t D σ H) : PSs X s t' := ⟨fun pins s σ H D I q => h.run pins s σ H D I (f D σ H q)⟩
/-- an expression ahead, in a statement -/
theorem st_res {α : Type} {J : Jt} {M : Mem} {H : Hp} {σ : L2.St} {e : MP.Env} {En : Ends} {x : MM α} {f : α → MM Fl} {post : α → Mem → Jt → Hp → Prop} (a : At X J0 H0 J M H σ e) (h : FinS X ER W J0 H0 J En (MM.bind x f M))
    (k : ∀ y M1 J1 H1, Go J H J1 H1 → At X J0 H0 J1 M1 H1 σ e → FinS X ER W J0 H0 J En (f y M1) → post y M1 J1 H1) : ResG X ER W σ J H (x M) post := by
  unfold MM.bind at h
  cases q : x M with
  | ok y M1 =>
    rw [q] at h
    exact fun J1 H1 g hd1 => k y M1 J1 H1 g (a.on g hd1) h
  | exc c p M1 =>
    rw [q] at h
    exact fun cv dd J' H' g hd' er => h cv dd σ J' H' (a.go.trans g) hd' er
  | bad => rw [q] at h; exact h.elim
theorem st_e {c : C} {J : Jt} {M : Mem} {H : Hp} {σ : L2.St} {e : MP.Env} {En : Ends} {f : D × Bool → MM Fl} {Q : VK} (a : At X J0 H0 J M H σ e) (h : FinS X ER W J0 H0 J En (MM.bind (den Y c e) f M))
    (k : ∀ x M1 J1 H1 v, Go J H J1 H1 → At X J0 H0 J1 M1 H1 σ e → RepO X.K X.w J1 H H1 v x.1 x.2 → FinS X ER W J0 H0 J En (f x M1) → Q v H1) : rdE Y ER W X c σ H Q :=
  ⟨J, M, e, a.hd, a.sl, st_res a h fun y M1 J1 H1 g a1 h1 v r => k y M1 J1 H1 v g a1 r h1⟩
theorem st_v {c : C} {J : Jt} {M : Mem} {H : Hp} {σ : L2.St} {e : MP.Env} {En : Ends} {f : D × Bool → MM Fl} {Q : VK} (a : At X J0 H0 J M H σ e) (h : FinS X ER W J0 H0 J En (MM.bind (den Y c e) f M))
    (k : ∀ x M1 J1 H1 v, Go J H J1 H1 → At X J0 H0 J1 M1 H1 σ e → Rep X.K X.w J1 v x.1 → FinS X ER W J0 H0 J1 En (f x M1) → Q v H1) : rdE Y ER W X c σ H Q :=
  st_e a h fun x M1 J1 H1 v g a1 r h1 => by
    obtain ⟨J2, g2, hd2, r2⟩ := r.share g a1.hd
    exact k x M1 J2 H1 v g2 (a.on g2 hd2) r2 (FinS.ext h1 g2.ext)
theorem st_L {cs : List C} {J : Jt} {M : Mem} {H : Hp} {σ : L2.St} {e : MP.Env} {En : Ends} {f : List D → MM Fl} {Q : List V → Hp → Prop} (a : At X J0 H0 J M H σ e) (h : FinS X ER W J0 H0 J En (MM.bind (denL Y cs e) f M))
    (k : ∀ ds M1 J1 H1 vs, Go J H J1 H1 → At X J0 H0 J1 M1 H1 σ e → RepL X.K X.w J1 vs ds → ds.length = cs.length → FinS X ER W J0 H0 J1 En (f ds M1) → Q vs H1) : rdL Y ER W X cs σ H Q := by
  refine ⟨J, M, e, a.hd, a.sl, ?_⟩
  unfold MM.bind at h
  cases q : denL Y cs e M with
  | ok y M1 =>
    rw [q] at h
    exact fun J1 H1 g hd1 vs r => k y M1 J1 H1 vs g (a.on g hd1) r (denL_len q) (FinS.ext h g.ext)
  | exc c p M1 =>
    rw [q] at h
    exact fun cv dd J' H' g hd' er => h cv dd σ J' H' (a.go.trans g) hd' er
  | bad => rw [q] at h; exact h.elim
theorem st_T {c : C} {J : Jt} {M : Mem} {H : Hp} {σ : L2.St} {e : MP.Env} {En : Ends} {f : D × Bool → MM Fl} {Q : Bool → Hp → Prop} (a : At X J0 H0 J M H σ e) (h : FinS X ER W J0 H0 J En (MM.bind (den Y c e) f M))
    (hb : ∀ x M1, (∀ b, x.1 ≠ .bl b) → f x M1 = .bad)
    (k : ∀ b o M1 J1 H1, Go J H J1 H1 → At X J0 H0 J1 M1 H1 σ e → FinS X ER W J0 H0 J1 En (f (.bl b, o) M1) → Q b H1) : rdT Y ER W X c σ H Q := by
  refine ⟨J, M, e, a.hd, a.sl, ?_⟩
  unfold MM.bind at h
  cases q : den Y c e M with
  | ok x M1 =>
    rw [q] at h
    intro J1 H1 g hd1
    have h' : FinS X ER W J0 H0 J En (f x M1) := h
    obtain ⟨d, o⟩ := x
    cases d with
    | bl b => exact ⟨b, rfl, k b o M1 J1 H1 g (a.on g hd1) (FinS.ext h' g.ext)⟩
    | _ => rw [hb _ M1 (fun b z => by cases z)] at h'; exact h'.elim
  | exc c p M1 =>
    rw [q] at h
    exact fun cv dd J' H' g hd' er => h cv dd σ J' H' (a.go.trans g) hd' er
  | bad => rw [q] at h; exact h.elim
/-! ### setting slots -/
theorem At.put {J : Jt} {M : Mem} {H : Hp} {σ : L2.St} {e : MP.Env} (a : At X J0 H0 J M H σ e) {i : Nat} {v : V} {d : D} (r : Rep X.K X.w J v d) : At X J0 H0 J M H (σ.set i (some v)) (e.set i (some (d, false))) := by
  refine ⟨a.go, a.hd, a.sl.put r, fun j d' b h1 h2 => ?_⟩
  have ne : i ≠ j := by
    rintro rfl
    have hi : i < e.length := by
      have := (List.getElem?_eq_some_iff.mp h1).1
      simpa using this
    rw [List.getElem?_set_self hi] at h1
    cases h1
  rw [List.getElem?_set_ne ne] at h1 h2
  exact a.new j d' b h1 h2
theorem set_self {α : Type} {l : List α} {i : Nat} {x y : α} (h : (l.set i x)[i]? = some y) : y = x ∧ i < l.length := by
  have hi : i < l.length := by
    have := (List.getElem?_eq_some_iff.mp h).1
    simpa using this
  rw [List.getElem?_set_self hi] at h
  cases h
  exact ⟨rfl, hi⟩
/-- a list (a dict) of the frame's own is named -/
theorem At.putOwn {J : Jt} {M : Mem} {H : Hp} {σ : L2.St} {e : MP.Env} (a : At X J0 H0 J M H σ e) {i : Nat} {b : Addr} {d : D} (r : Own X.K X.w J H b d) (hn : H0 b = none) (ap : ∀ (j : Nat) (d' : D), j ≠ i → e[j]? = some (some (d', true)) → σ[j]? ≠ some (some (.ref b))) :
    At X J0 H0 J M H (σ.set i (some (.ref b))) (e.set i (some (d, true))) := by
  have hl := a.sl.len
  refine ⟨a.go, a.hd, ⟨by simp [hl], fun j d' he => ?_, fun j d' he => ?_, fun j j' d' d'' c h1 h2 h3 h4 => ?_⟩, fun j d' c h1 h2 => ?_⟩
  · by_cases hj : i = j
    · subst hj; cases (set_self he).1
    · rw [List.getElem?_set_ne hj] at he
      obtain ⟨u, h1, h2⟩ := a.sl.sh j d' he
      exact ⟨u, by rw [List.getElem?_set_ne hj]; exact h1, h2⟩
  · by_cases hj : i = j
    · subst hj
      obtain ⟨e1, hi⟩ := set_self he
      cases e1
      exact ⟨b, List.getElem?_set_self (by rw [hl]; exact hi), r⟩
    · rw [List.getElem?_set_ne hj] at he
      obtain ⟨u, h1, h2⟩ := a.sl.own j d' he
      exact ⟨u, by rw [List.getElem?_set_ne hj]; exact h1, h2⟩
  · by_cases hj : i = j
    · by_cases hj' : i = j'
      · rw [← hj, ← hj']
      · exfalso
        subst hj
        rw [List.getElem?_set_ne hj'] at h2 h4
        have := (set_self h3).1
        cases this
        exact ap j' d'' (fun z => hj' z.symm) h2 h4
    · by_cases hj' : i = j'
      · exfalso
        subst hj'
        rw [List.getElem?_set_ne hj] at h1 h3
        have := (set_self h4).1
        cases this
        exact ap j d' (fun z => hj z.symm) h1 h3
      · rw [List.getElem?_set_ne hj] at h1 h3
        rw [List.getElem?_set_ne hj'] at h2 h4
        exact a.sl.apart j j' d' d'' c h1 h2 h3 h4
  · by_cases hj : i = j
    · subst hj
      have := (set_self h2).1
      cases this
      exact hn
    · rw [List.getElem?_set_ne hj] at h1 h2
      exact a.new j d' c h1 h2
/-- what an expression gave is named -/
theorem At.take {J J1 : Jt} {M M1 : Mem} {H H1 : Hp} {σ : L2.St} {e : MP.Env} (a : At X J0 H0 J M H σ e) (g : Go J H J1 H1) (a1 : At X J0 H0 J1 M1 H1 σ e) {i : Nat} {keep : Bool} {v : V} {d : D} {own : Bool} (r : RepO X.K X.w J1 H H1 v d own) :
    ∃ J2, At X J0 H0 J2 M1 H1 (σ.set i (some v)) (e.set i (some (d, keep && own))) ∧ Go J H J2 H1 := by
  by_cases hk : keep = true ∧ own = true
  · obtain ⟨rfl, rfl⟩ := hk
    obtain ⟨b, rfl, hn, ho⟩ := r
    refine ⟨J1, a1.putOwn ho (none_of_not fun z => ?_) fun j d' _ h1 h2 => ?_, g⟩
    · have := a.go.keepR b z
      rw [hn] at this; cases this
    · obtain ⟨c, h3, o, h4, _⟩ := a.sl.own j d' h1
      rw [h2] at h3; cases h3
      rw [hn] at h4; cases h4
  · have : (keep && own) = false := by
      cases keep <;> cases own <;> first | rfl | exact absurd ⟨rfl, rfl⟩ hk
    rw [this]
    obtain ⟨J2, g2, hd2, r2⟩ := r.share g a1.hd
    exact ⟨J2, (a.on g2 hd2).put r2, g2⟩
end
end MP
end

section
set_option linter.all false
set_option Elab.async false
set_option maxRecDepth 100000
set_option maxHeartbeats 8000000
namespace MP
open PySem PySem.Spec PyProof.Rows L2
section
variable {S : Cs} {Y : Ctx} {ER : ExR} {k : Nat} {W : WX} {X : Cx} {J0 : Jt} {H0 : Hp}
/-- a comprehension's parts -/
theorem snd_lc {n : Nat} (ih : ∀ m ≤ n, SndX Y ER m) {el : Expr} {gs : List Comprehension} {sc : Scope} {pos : Pos} {c : C} (h : cE (n + 1) S (.ListComp el gs sc pos) = some c) (ok : XOk S Y ER k W X) :
    (∃ tg it cond cel tn kk cs ccond, gs = [⟨tg, it, cond, 0⟩] ∧ c = .lc cel tn kk cs ccond ((ownOf S.N sc).map (·.2)) ∧ PI X tg it (rdI Y ER W X kk cs) ∧ blkC S.N S.sc sc (ownOf S.N sc) = true ∧ tn.ixs.all ((ownOf S.N sc).map (·.2)).contains = true ∧
      (∀ (s : Shared) (H : Hp) (C : Addr) (cl : List (Str × Addr)) (fp : List Addr), PG (X.blk s H sc (compEnvC sc cl C X.env) fp) tg (gD X tn)) ∧
      (∀ (s : Shared) (H : Hp) (C : Addr) (cl : List (Str × Addr)) (fp : List Addr), PE (X.blk s H sc (compEnvC sc cl C X.env) fp) el (rdE Y ER (fun _ _ _ _ => False) X cel)) ∧
      (∀ (s : Shared) (H : Hp) (C : Addr) (cl : List (Str × Addr)) (fp : List Addr), PTs (X.blk s H sc (compEnvC sc cl C X.env) fp) cond (rdTs Y ER (fun _ _ _ _ => False) X ccond)) ∧
      (∀ env x, foldedSetIterable it env x = pure x)) ∨
    (∃ tg it cond tg1 it1 cond1 cel tn kk cs ccond tn1 kk1 cs1 ccond1, gs = [⟨tg, it, cond, 0⟩, ⟨tg1, it1, cond1, 0⟩] ∧ c = .lc2 cel tn kk cs ccond tn1 kk1 cs1 ccond1 ((ownOf S.N sc).map (·.2)) tn1.ixs ∧ PI X tg it (rdI Y ER W X kk cs) ∧ blkC S.N S.sc sc (ownOf S.N sc) = true ∧ tn.ixs.all ((ownOf S.N sc).map (·.2)).contains = true ∧ (∀ i ∈ tn1.ixs, i ∈ (ownOf S.N sc).map (·.2)) ∧
      (∀ (s : Shared) (H : Hp) (C : Addr) (cl : List (Str × Addr)) (fp : List Addr), PG (X.blk s H sc (compEnvC sc cl C X.env) fp) tg (gD X tn)) ∧
      (∀ (s : Shared) (H : Hp) (C : Addr) (cl : List (Str × Addr)) (fp : List Addr), PTs (X.blk s H sc (compEnvC sc cl C X.env) fp) cond (rdTs Y ER (fun _ _ _ _ => False) X ccond)) ∧
      (∀ (s : Shared) (H : Hp) (C : Addr) (cl : List (Str × Addr)) (fp : List Addr), PI (X.blk s H sc (compEnvC sc cl C X.env) fp) tg1 it1 (rdI Y ER (fun _ _ _ _ => False) X kk1 cs1)) ∧
      (∀ (s : Shared) (H : Hp) (C : Addr) (cl : List (Str × Addr)) (fp : List Addr), PG (X.blk s H sc (compEnvC sc cl C X.env) fp) tg1 (gD X tn1)) ∧
      (∀ (s : Shared) (H : Hp) (C : Addr) (cl : List (Str × Addr)) (fp : List Addr), PTs (X.blk s H sc (compEnvC sc cl C X.env) fp) cond1 (rdTs Y ER (fun _ _ _ _ => False) X ccond1)) ∧
      (∀ (s : Shared) (H : Hp) (C : Addr) (cl : List (Str × Addr)) (fp : List Addr), PE (X.blk s H sc (compEnvC sc cl C X.env) fp) el (rdE Y ER (fun _ _ _ _ => False) X cel)) ∧
      (∀ env x, foldedSetIterable it env x = pure x) ∧ (∀ (s : Shared) (H : Hp), ∀ env x, foldedSetIterable it1 env x = pure x)) := by
  have I := ih n (Nat.le_refl _)
  unfold cE at h
  split at h <;> first | (rename_i e _; cases e; done) | skip
  all_goals first | contradiction | skip
  · rename_i el' tg it cond sc' pos' e
    cases e
    obtain ⟨kc, hk, h⟩ := Option.bind_eq_some_iff.mp h
    obtain ⟨t, ht, h⟩ := Option.bind_eq_some_iff.mp h
    obtain ⟨cel, hel, h⟩ := Option.bind_eq_some_iff.mp h
    obtain ⟨ccond, hcd, h⟩ := Option.bind_eq_some_iff.mp h
    split at h
    · rename_i hc
      cases h
      simp only [Bool.and_eq_true, decide_eq_true_eq] at hc
      obtain ⟨⟨⟨c1, c2⟩, c3⟩, c4⟩ := hc
      obtain ⟨i1, i2⟩ := I.it S _ n _ _ kc.1 kc.2 t k W X hk c1 ht ok
      have hl := cEs_len hcd
      exact .inl ⟨tg, it, cond, cel, t, kc.1, kc.2, ccond, rfl, rfl, i1, c3, c2, fun s H C cl fp => pg_tn n ht (ok.blk s H C cl fp), fun s H C cl fp => I.e _ _ cel _ _ _ hel (ok.blk s H C cl fp),
        fun s H C cl fp => pts_of ih hcd (by omega) (ok.blk s H C cl fp), i2⟩
    · cases h
  · rename_i el' tg it cond tg1 it1 cond1 sc' pos' e
    cases e
    obtain ⟨kc, hk, h⟩ := Option.bind_eq_some_iff.mp h
    obtain ⟨t, ht, h⟩ := Option.bind_eq_some_iff.mp h
    obtain ⟨ccond, hcd, h⟩ := Option.bind_eq_some_iff.mp h
    obtain ⟨kc1, hk1, h⟩ := Option.bind_eq_some_iff.mp h
    obtain ⟨t1, ht1, h⟩ := Option.bind_eq_some_iff.mp h
    obtain ⟨ccond1, hcd1, h⟩ := Option.bind_eq_some_iff.mp h
    obtain ⟨cel, hel, h⟩ := Option.bind_eq_some_iff.mp h
    split at h
    · rename_i hc
      cases h
      simp only [Bool.and_eq_true, decide_eq_true_eq] at hc
      obtain ⟨⟨⟨⟨c1, c1'⟩, ⟨c2, c2'⟩⟩, c3⟩, ⟨c4, c4'⟩⟩ := hc
      obtain ⟨i1, i2⟩ := I.it S _ n _ _ kc.1 kc.2 t k W X hk c1 ht ok
      have hl := cEs_len hcd
      have hl1 := cEs_len hcd1
      exact .inr ⟨tg, it, cond, tg1, it1, cond1, cel, t, kc.1, kc.2, ccond, t1, kc1.1, kc1.2, ccond1, rfl, rfl, i1, c3, c2, (fun i hi => by have := List.all_eq_true.mp c2' i hi; simpa using this), fun s H C cl fp => pg_tn n ht (ok.blk s H C cl fp),
        fun s H C cl fp => pts_of ih hcd (by omega) (ok.blk s H C cl fp), fun s H C cl fp => (I.it _ _ n _ _ kc1.1 kc1.2 t1 _ _ _ hk1 c1' ht1 (ok.blk s H C cl fp)).1, fun s H C cl fp => pg_tn n ht1 (ok.blk s H C cl fp),
        fun s H C cl fp => pts_of ih hcd1 (by omega) (ok.blk s H C cl fp), fun s H C cl fp => I.e _ _ cel _ _ _ hel (ok.blk s H C cl fp), i2, fun s H => (I.it _ _ n _ _ kc1.1 kc1.2 t1 _ _ _ hk1 c1' ht1 (ok.blk s H 0 [] [])).2⟩
    · cases h
theorem loc_of {x : Str} {p : Nat × Bool} (ok : XOk S Y ER k W X) (h : tgName S x = some p) : X.N[p.1]? = some x ∧ Loc X.env.scope x ∧ (X.fn x = true ∨ X.env.scope.names.lookup x = some .local) ∧ p.2 = isMV S x ∧ Vis X.env.scope x ∧ x ∈ S.N := by
  unfold tgName at h
  have fin : ∀ kd, S.sc.names.lookup x = some kd → (kd = .local ∨ kd = .cell) → (S.N.findIdx? (· == x)).map (fun i => (i, isMV S x)) = some p → X.N[p.1]? = some x ∧ Loc X.env.scope x ∧ (X.fn x = true ∨ X.env.scope.names.lookup x = some .local) ∧ p.2 = isMV S x ∧ Vis X.env.scope x ∧ x ∈ S.N := by
    intro kd hk hkd hm
    obtain ⟨i, hi, rfl⟩ := Option.map_eq_some_iff.mp hm
    have hx : X.env.scope.names.lookup x = some kd := by
      rcases ok.sc x kd hk with h | ⟨e, _⟩
      · exact h
      · subst e; rcases hkd with h | h <;> cases h
    refine ⟨by rw [ok.N]; exact findIdx_get hi, ?_, ?_, rfl, ?_, List.mem_of_getElem? (findIdx_get hi)⟩
    · rcases hkd with rfl | rfl
      · exact .inl hx
      · exact .inr hx
    · rcases hkd with rfl | rfl
      · exact .inr hx
      · exact .inl (ok.fn x hk)
    · rcases hkd with rfl | rfl
      · exact .inl hx
      · exact .inr (.inl hx)
  split at h
  · exact fin _ (by assumption) (.inl rfl) h
  · exact fin _ (by assumption) (.inr rfl) h
  · cases h
theorem XOk.nodup (ok : XOk S Y ER k W X) : X.N.Nodup := by rw [ok.N]; exact ok.nd
/-- name = value -/
theorem s_set {n : Nat} (hn : n ≤ szLine) {x : Str} {p : Nat × Bool} {v : Expr} {c : C} {py pos : Pos} (ok : XOk S Y ER k W X) (hx : tgName S x = some p) (hv : cE n S v = some c) :
    PS X (.Assign [.Name x py] v pos) (rdS ER W X J0 H0 (denS Y (.set p.1 p.2 c))) := by
  obtain ⟨hi, hl, hf, _, _, _⟩ := loc_of ok hx
  have snd := snd_all (Y := Y) (ER := ER)
  have read : ∀ D σ H, rdS ER W X J0 H0 (denS Y (.set p.1 p.2 c)) D σ H → rdE Y ER W X c σ H fun v H1 => gName p.1 v σ H1 D.nx := by
    intro D σ H h
    obtain ⟨J, M, e, a, h⟩ := h
    refine st_e a (f := fun x => MM.pure (.nx (e.set p.1 (some (x.1, p.2 && x.2))))) h fun x M1 J1 H1 v g a1 r h1 => ?_
    obtain ⟨J2, a2, g2⟩ := a.take (i := p.1) (keep := p.2) g a1 r
    exact h1 _ J2 H1 a2 g2.ext
  by_cases hc : ∃ el gs sc p2, v = .ListComp el gs sc p2
  · obtain ⟨el, gs, sc, p2, rfl⟩ := hc
    cases n with
    | zero => simp [cE] at hv
    | succ n =>
      have sw : ∀ (hk : X.env.scope.kind = .function), ¬ (X.env.scope.names.lookup x = some .local ∧ (py.line == p2.line) = true ∧ (sc.names.any fun (n, k) => n == x && (k == .local || k == .cell)) = false) → swapsWith (.ListComp el gs sc p2) (some (.Name x py)) pos.line X.env = pure false := by
        intro hk hsw
        unfold swapsWith
        have hb : X.env.blockKind = .function := by unfold Env.blockKind; rw [hk]; rfl
        simp only [Expr.pos, hb]
        show (pure _ : Sem Bool) = pure false
        congr 1
        cases q1 : (X.env.kindOf x == some NameKind.local) with
        | false => rfl
        | true =>
          cases q2 : (py.line == p2.line) with
          | false => simp
          | true =>
            cases q3 : (sc.names.any fun (n, k) => n == x && (k == .local || k == .cell)) with
            | true => simp
            | false =>
              exact absurd ⟨(show X.env.kindOf x = some .local by simpa using q1), q2, q3⟩ hsw
      rcases snd_lc (fun m hm => snd m (by omega)) hv ok with ⟨tg, it, cond, cel, tn, kk, cs, ccond, rfl, rfl, i1, c3, c2, hg, he, ht, hfs⟩ | ⟨tg, it, cond, tg1, it1, cond1, cel, tn, kk, cs, ccond, tn1, kk1, cs1, ccond1, rfl, rfl, i1, c3, c2, hv1, hg, ht, hi1, hg1, ht1, he, hfs, hfs1⟩
      · refine ⟨fun pins s σ H D I h => ?_⟩
        have hk := I.ok.kind
        have h' := read D σ H h
        by_cases hsw : X.env.scope.names.lookup x = some .local ∧ (py.line == p2.line) = true ∧ (sc.names.any fun (n, k) => n == x && (k == .local || k == .cell)) = false
        · exact (ps_setLc (own := ownOf S.N sc) ok.calm ok.nodup hi hsw.1 (sw_true hk hsw.1 hsw.2.1 hsw.2.2) i1 (blk_ok ok c3) hg ht he (hfs _)).run pins s σ H D I (lc_read c2 σ H _ h')
        · exact (ps_set (te := rdE Y ER W X (.lc cel tn kk cs ccond ((ownOf S.N sc).map (·.2)))) ok.nodup hi hl ((snd (n + 1) hn).e S _ _ k W X hv ok) (sw hk hsw) hf).run pins s σ H D I h'
      · refine ⟨fun pins s σ H D I h => ?_⟩
        have hk := I.ok.kind
        have h' := read D σ H h
        by_cases hsw : X.env.scope.names.lookup x = some .local ∧ (py.line == p2.line) = true ∧ (sc.names.any fun (n, k) => n == x && (k == .local || k == .cell)) = false
        · exact (ps_setLc2 (own := ownOf S.N sc) (vs1 := tn1.ixs) ok.calm ok.nodup hi hsw.1 (sw_true hk hsw.1 hsw.2.1 hsw.2.2) i1 (blk_ok ok c3) hv1 hg ht hi1 hg1 ht1 he (hfs _) (hfs1 s H)).run pins s σ H D I (lc2_read c2 rfl σ H _ h')
        · exact (ps_set (te := rdE Y ER W X (.lc2 cel tn kk cs ccond tn1 kk1 cs1 ccond1 ((ownOf S.N sc).map (·.2)) tn1.ixs)) ok.nodup hi hl ((snd (n + 1) hn).e S _ _ k W X hv ok) (sw hk hsw) hf).run pins s σ H D I h'
  · refine PS.imp (ps_set ok.nodup hi hl ((snd n hn).e S v c k W X hv ok) ?_ hf) read
    cases v <;> first | rfl | skip
    · exact absurd ⟨_, _, _, _, rfl⟩ hc
    all_goals (cases n <;> simp [cE] at hv)
end
end MP
end

section
set_option linter.all false
set_option Elab.async false
set_option maxRecDepth 100000
set_option maxHeartbeats 8000000
namespace MP
open PySem PySem.Spec PyProof.Rows L2
section
variable {S : Cs} {Y : Ctx} {ER : ExR} {k : Nat} {W : WX} {X : Cx} {J0 : Jt} {H0 : Hp}
/-! ### small statements -/
theorem s_pass {pos : Pos} : PS X (.Pass pos) (rdS ER W X J0 H0 (denS Y .pass)) := PS.imp ps_pass fun D σ H h => by
  obtain ⟨J, M, e, a, h⟩ := h
  exact h σ J H a (.refl _)
theorem s_retN {pos : Pos} : PS X (.Return none pos) (rdS ER W X J0 H0 (denS Y .retN)) := PS.imp ps_retN fun D σ H h => by
  obtain ⟨J, M, e, a, h⟩ := h
  exact h J H a.go a.hd .non .non
theorem s_ret {e : Expr} {c : C} {pos : Pos} (he : PE X e (rdE Y ER W X c)) : PS X (.Return (some e) pos) (rdS ER W X J0 H0 (denS Y (.ret c))) := PS.imp (ps_ret he) fun D σ H h => by
  obtain ⟨J, M, e, a, h⟩ := h
  refine st_e a (f := fun x => MM.pure (.rt x.1 x.2)) h fun x M1 J1 H1 v g a1 r h1 => ?_
  exact h1 J1 H1 a1.go a1.hd v (r.back a.go)
theorem s_expr {e : Expr} {c : C} {pos : Pos} (he : PE X e (rdE Y ER W X c)) (hs : swapsWith e none pos.line X.env = pure false) : PS X (.Expr e pos) (rdS ER W X J0 H0 (denS Y (.expr c))) := PS.imp (ps_expr he hs) fun D σ H h => by
  obtain ⟨J, M, e, a, h⟩ := h
  refine st_e a (f := fun x => MM.pure (.nx e)) h fun x M1 J1 H1 v g a1 r h1 => ?_
  exact h1 σ J1 H1 a1 g.ext
theorem slot_read {x : Str} {i : Nat} {pos : Pos} (ok : XOk S Y ER k W X) (h : slot S x = some i) : PE X (.Name x pos) (fun σ H Q => ∃ v, σ[i]? = some (some v) ∧ Q v H) := by
  obtain ⟨h1, h2⟩ := slot_get ok h
  have hx : x ∈ S.N := by rw [ok.N] at h1; exact List.mem_of_getElem? h1
  exact PE.imp (pe_var h1 h2 (ok.nodb x hx).1 (ok.nodb x hx).2) fun σ H Q h => h
theorem s_retO {x : Str} {i : Nat} {p pos : Pos} (ok : XOk S Y ER k W X) (h : slot S x = some i) : PS X (.Return (some (.Name x p)) pos) (rdS ER W X J0 H0 (denS Y (.retO i))) := PS.imp (ps_ret (slot_read ok h)) fun D σ H h => by
  obtain ⟨J, M, e, a, h⟩ := h
  simp only [denS] at h
  cases he : e[i]? with
  | none => rw [he] at h; exact h.elim
  | some o =>
    cases o with
    | none => rw [he] at h; exact h.elim
    | some p =>
      obtain ⟨d, own⟩ := p
      rw [he] at h
      cases own with
      | false =>
        obtain ⟨v, h1, h2⟩ := a.sl.sh i d he
        exact ⟨v, h1, h J H a.go a.hd v h2⟩
      | true =>
        obtain ⟨b, h1, h2⟩ := a.sl.own i d he
        exact ⟨_, h1, h J H a.go a.hd _ ⟨b, rfl, a.new i d b he h1, h2⟩⟩
/-- a slot is forgotten -/
theorem At.hide {J : Jt} {M : Mem} {H : Hp} {σ : L2.St} {e : MP.Env} (a : At X J0 H0 J M H σ e) (j : Nat) : At X J0 H0 J M H σ (e.set j none) := by
  have back : ∀ {m : Nat} {d : D} {o : Bool}, (e.set j none)[m]? = some (some (d, o)) → e[m]? = some (some (d, o)) := fun {m d o} h => by
    have n1 : j ≠ m := by rintro rfl; cases (set_self h).1
    rwa [List.getElem?_set_ne n1] at h
  exact ⟨a.go, a.hd, ⟨by simp [a.sl.len], fun m d h => a.sl.sh m d (back h), fun m d h => a.sl.own m d (back h), fun m m' d d' c h1 h2 h3 h4 => a.sl.apart m m' d d' c (back h1) (back h2) h3 h4⟩, fun m d c h1 h2 => a.new m d c (back h1) h2⟩
/-- x = y, both of the frame's own -/
theorem s_move {x y : Str} {p : Nat × Bool} {j : Nat} {py pv pos : Pos} (ok : XOk S Y ER k W X) (hx : tgName S x = some p) (hy : slot S y = some j) : PS X (.Assign [.Name x py] (.Name y pv) pos) (rdS ER W X J0 H0 (denS Y (.move p.1 j))) := by
  obtain ⟨hi, hl, hf, _, _, _⟩ := loc_of ok hx
  refine PS.imp (ps_set ok.nodup hi hl (slot_read ok hy) rfl hf) fun D σ H h => ?_
  obtain ⟨J, M, e, a, h⟩ := h
  simp only [denS] at h
  cases he : e[j]? with
  | none => rw [he] at h; exact h.elim
  | some o =>
    cases o with
    | none => rw [he] at h; exact h.elim
    | some q =>
      obtain ⟨d, own⟩ := q
      rw [he] at h
      cases own with
      | false =>
        obtain ⟨v, h1, h2⟩ := a.sl.sh j d he
        exact ⟨v, h1, h _ J H (a.put h2) (.refl _)⟩
      | true =>
        obtain ⟨b, h1, h2⟩ := a.sl.own j d he
        by_cases hij : (p.1 != j) = true
        · have h : FinS X ER W J0 H0 J D ((if (p.1 != j) = true then MM.pure (.nx ((e.set j none).set p.1 (some (d, true)))) else bad : MM Fl) M) := h
          rw [if_pos hij] at h
          refine ⟨_, h1, h _ J H ((a.hide j).putOwn h2 (a.new j d b he h1) fun m d' _ h3 h4 => ?_) (.refl _)⟩
          have n1 : j ≠ m := by rintro rfl; cases (set_self h3).1
          rw [List.getElem?_set_ne n1] at h3
          exact n1 (a.sl.apart j m d d' b he h3 h1 h4)
        · have h : FinS X ER W J0 H0 J D ((if (p.1 != j) = true then MM.pure (.nx ((e.set j none).set p.1 (some (d, true)))) else bad : MM Fl) M) := h
          rw [if_neg hij] at h
          exact h.elim
/-! ### blocks -/
theorem ss_nil : PSs X [] (rdS ER W X J0 H0 (denSs Y [])) := PSs.imp pss_nil fun D σ H h => by
  obtain ⟨J, M, e, a, h⟩ := h
  exact h σ J H a (.refl _)
theorem denSs_app : ∀ (a b : List MP.S) (e : MP.Env), denSs Y (a ++ b) e = MM.bind (denSs Y a e) fun f => match f with
    | .nx e' => denSs Y b e'
    | .rt d o => MM.pure (.rt d o)
  | [], b, e => by funext M; rfl
  | s :: a, b, e => by
    funext M
    show MM.bind (denS Y s e) (fun f => match f with | .nx e' => denSs Y (a ++ b) e' | .rt d o => MM.pure (.rt d o)) M = MM.bind (MM.bind (denS Y s e) fun f => match f with | .nx e' => denSs Y a e' | .rt d o => MM.pure (.rt d o)) (fun f => match f with | .nx e' => denSs Y b e' | .rt d o => MM.pure (.rt d o)) M
    unfold MM.bind
    cases denS Y s e M with
    | ok f M1 =>
      cases f with
      | nx e' =>
        dsimp only
        rw [denSs_app a b e']
        rfl
      | rt d o => rfl
    | exc _ _ _ => rfl
    | bad => rfl
theorem denSs_one (s : MP.S) (e : MP.Env) : denSs Y [s] e = denS Y s e := by
  funext M
  show MM.bind (denS Y s e) (fun f => match f with | .nx e' => MM.pure (Fl.nx e') | .rt d o => MM.pure (Fl.rt d o)) M = _
  unfold MM.bind MM.pure
  cases denS Y s e M with
  | ok f M1 => cases f <;> rfl
  | exc _ _ _ => rfl
  | bad => rfl
theorem ss_seq {st : Stmt} {rest : List Stmt} {a b : List MP.S} (h1 : PS X st (rdS ER W X J0 H0 (denSs Y a))) (h2 : PSs X rest (rdS ER W X J0 H0 (denSs Y b))) : PSs X (st :: rest) (rdS ER W X J0 H0 (denSs Y (a ++ b))) := by
  refine PSs.imp (pss_cons h1 h2) fun En σ H h => ?_
  obtain ⟨J, M, e, at0, h⟩ := h
  rw [denSs_app] at h
  refine ⟨J, M, e, at0, ?_⟩
  unfold MM.bind at h
  cases q : denSs Y a e M with
  | ok f M1 =>
    rw [q] at h
    cases f with
    | nx e' => exact fun σ' J' H' a' x => ⟨J', M1, e', a', FinS.ext h x⟩
    | rt d o => exact h
  | exc c p M1 => rw [q] at h; exact h
  | bad => rw [q] at h; exact h
/-- a list (a dict) of the frame's own is handed on -/
theorem at_share {J : Jt} {M : Mem} {H : Hp} {σ : L2.St} {e : MP.Env} (a : At X J0 H0 J M H σ e) {i : Nat} {d : D} (he : e[i]? = some (some (d, true))) : ∃ J', At X J0 H0 J' M H σ (e.set i (some (d, false))) ∧ Ext J J' := by
  obtain ⟨b, h1, h2⟩ := a.sl.own i d he
  obtain ⟨o, ho, hI, hr, orr⟩ := id h2
  have hi : i < e.length := (List.getElem?_eq_some_iff.mp he).1
  have ex : Ext J (J.add b o) := Jt.add_ext hI
  refine ⟨J.add b o, ⟨a.go.add (a.new i d b he h1) hI, a.hd.add ho hI hr, ⟨by simp [a.sl.len], fun j d' hj => ?_, fun j d' hj => ?_, fun j j' d' d'' c q1 q2 q3 q4 => ?_⟩, fun j d' c q1 q2 => ?_⟩, ex⟩
  · by_cases hij : i = j
    · subst hij
      obtain ⟨e1, _⟩ := set_self hj
      cases e1
      exact ⟨_, h1, orr.rep hI⟩
    · rw [List.getElem?_set_ne hij] at hj
      obtain ⟨v, q1, q2⟩ := a.sl.sh j d' hj
      exact ⟨v, q1, q2.ext ex⟩
  · by_cases hij : i = j
    · subst hij; cases (set_self hj).1
    · rw [List.getElem?_set_ne hij] at hj
      obtain ⟨c, q1, o', q2, q3, q4, q5⟩ := a.sl.own j d' hj
      refine ⟨c, q1, o', q2, ?_, q4, q5.ext ex⟩
      show (if c = b then some o else J.I c) = none
      rw [if_neg, q3]
      rintro rfl
      exact hij (a.sl.apart i j d d' c he hj h1 q1)
  · have n1 : i ≠ j := by rintro rfl; cases (set_self q1).1
    have n2 : i ≠ j' := by rintro rfl; cases (set_self q2).1
    rw [List.getElem?_set_ne n1] at q1
    rw [List.getElem?_set_ne n2] at q2
    exact a.sl.apart j j' d' d'' c q1 q2 q3 q4
  · have n1 : i ≠ j := by rintro rfl; cases (set_self q1).1
    rw [List.getElem?_set_ne n1] at q1
    exact a.new j d' c q1 q2
theorem rd_share {i : Nat} {r : List MP.S} {D : Ends} {σ : L2.St} {H : Hp} (h : rdS ER W X J0 H0 (denSs Y (.share i :: r)) D σ H) : rdS ER W X J0 H0 (denSs Y r) D σ H := by
  obtain ⟨J, M, e, a, h⟩ := h
  have h' : FinS X ER W J0 H0 J D (denSs Y r (match e[i]? with
    | some (some (d, true)) => e.set i (some (d, false))
    | _ => e) M) := h
  split at h'
  · rename_i d he
    obtain ⟨J', a', x⟩ := at_share a he
    exact ⟨J', M, _, a', FinS.ext h' x⟩
  · exact ⟨J, M, e, a, h'⟩
theorem s_shares {st : Stmt} {xs : List Str} {r : List MP.S} (h : PS X st (rdS ER W X J0 H0 (denSs Y r))) : PS X st (rdS ER W X J0 H0 (denSs Y (shares S xs ++ r))) := by
  refine PS.imp h fun D σ H q => ?_
  unfold shares at q
  generalize xs.eraseDups = ys at q
  induction ys with
  | nil => exact q
  | cons y ys ih =>
    rw [List.filterMap_cons] at q
    split at q
    · exact ih q
    · rename_i b hb
      split at hb
      · obtain ⟨i, hi, rfl⟩ := Option.map_eq_some_iff.mp hb
        exact ih (rd_share q)
      · cases hb
theorem s_sh {st : Stmt} {n : Nat} {es : List Expr} {s : MP.S} (h : PS X st (rdS ER W X J0 H0 (denS Y s))) : PS X st (rdS ER W X J0 H0 (denSs Y (shareE n S es ++ [s]))) := by
  refine s_shares (S := S) (PS.imp h fun D σ H q => ?_)
  obtain ⟨J, M, e, a, q⟩ := q
  rw [denSs_one] at q
  exact ⟨J, M, e, a, q⟩
theorem s_one {st : Stmt} {s : MP.S} (h : PS X st (rdS ER W X J0 H0 (denS Y s))) : PS X st (rdS ER W X J0 H0 (denSs Y [s])) := PS.imp h fun D σ H q => by
  obtain ⟨J, M, e, a, q⟩ := q
  rw [denSs_one] at q
  exact ⟨J, M, e, a, q⟩
/-! ### if, while, for -/
theorem s_if {c : Expr} {p q : List Stmt} {cc : C} {a b : List MP.S} {pos : Pos} (hc : PT X c (rdT Y ER W X cc)) (ha : PSs X p (rdS ER W X J0 H0 (denSs Y a))) (hb : PSs X q (rdS ER W X J0 H0 (denSs Y b))) : PS X (.If c p q pos) (rdS ER W X J0 H0 (denS Y (.ite cc a b))) := by
  refine PS.imp (ps_if hc ha hb) fun En σ H h => ?_
  obtain ⟨J, M, e, at0, h⟩ := h
  refine st_T at0 (f := fun x => match x.1 with
    | .bl true => denSs Y a e
    | .bl false => denSs Y b e
    | _ => bad) h (fun x M1 hx => ?_) fun t o M1 J1 H1 g a1 h1 => ?_
  · obtain ⟨d, o⟩ := x
    cases d <;> first | rfl | exact absurd rfl (hx _)
  · cases t with
    | true => rw [if_pos rfl]; exact ⟨J1, M1, e, a1, h1⟩
    | false => rw [if_neg Bool.false_ne_true]; exact ⟨J1, M1, e, a1, h1⟩
theorem s_while {c : Expr} {p : List Stmt} {cc : C} {b : List MP.S} {pos : Pos} (ok : XOk S Y ER k W X) (hc : PT X c (rdT Y ER W X cc)) (hb : PSs X p (rdS ER W X J0 H0 (denSs Y b))) : PS X (.While c p [] pos) (rdS ER W X J0 H0 (denS Y (.while_ cc b))) := by
  refine PS.imp (ps_while ok.own hc hb) fun En σ H h => ?_
  obtain ⟨J, M, e, at0, h⟩ := h
  refine ⟨fun m σ' H' => ∃ J' M' e', At X J0 H0 J' M' H' σ' e' ∧ FinS X ER W J0 H0 J' En (whileL (fun e => den Y cc e) (fun e => denSs Y b e) m e' M'), ⟨1000000, J, M, e, at0, h⟩, ?_⟩
  rintro m σ1 H1 ⟨J1, M1, e1, a1, h1⟩
  cases m with
  | zero => exact h1.elim
  | succ m =>
    refine st_T a1 (f := fun x => match x.1 with
      | .bl true => MM.bind (denSs Y b e1) fun f => match f with
        | .nx e' => whileL (fun e => den Y cc e) (fun e => denSs Y b e) m e'
        | .rt d o => MM.pure (.rt d o)
      | .bl false => MM.pure (.nx e1)
      | _ => bad) h1 (fun x M1 hx => ?_) fun t o M2 J2 H2 g a2 h2 => ?_
    · obtain ⟨d, o⟩ := x
      cases d <;> first | rfl | exact absurd rfl (hx _)
    · cases t with
      | true =>
        rw [if_pos rfl]
        refine ⟨fun σ' H' => ∃ J' M' e', At X J0 H0 J' M' H' σ' e' ∧ FinS X ER W J0 H0 J' En (whileL (fun e => den Y cc e) (fun e => denSs Y b e) m e' M'), fun σ' H' h => ⟨m, by omega, h⟩, J2, M2, e1, a2, ?_⟩
        have h3 : FinS X ER W J0 H0 J2 En (MM.bind (denSs Y b e1) (fun f => match f with
          | .nx e' => whileL (fun e => den Y cc e) (fun e => denSs Y b e) m e'
          | .rt d o => MM.pure (.rt d o)) M2) := h2
        unfold MM.bind at h3
        cases q : denSs Y b e1 M2 with
        | ok f M3 =>
          rw [q] at h3
          cases f with
          | nx e' => exact fun σ' J' H' a' x => ⟨J', M3, e', a', FinS.ext h3 x⟩
          | rt d o => exact h3
        | exc c p M3 => rw [q] at h3; exact h3
        | bad => rw [q] at h3; exact h3
      | false =>
        rw [if_neg Bool.false_ne_true]
        exact h2 σ1 J2 H2 a2 (.refl _)
theorem s_for {it tg : Expr} {p : List Stmt} {tn : Tn} {kk : ItK} {cs : List C} {b : List MP.S} {pos : Pos} (ok : XOk S Y ER k W X) (hi : PI X tg it (rdI Y ER W X kk cs)) (hg : PG X tg (gD X tn)) (hb : PSs X p (rdS ER W X J0 H0 (denSs Y b))) (hfs : ∀ env x, foldedSetIterable it env x = pure x)
    (hnew : ∀ {d : D} {e e' : MP.Env}, bindT false tn d e = some e' → ∀ (i : Nat) (d' : D), e'[i]? = some (some (d', true)) → e[i]? = some (some (d', true)) ∧ i ∉ tn.ixs) :
    PS X (.For tg it p [] pos) (rdS ER W X J0 H0 (denS Y (.for_ tn kk cs b))) := by
  refine PS.imp (ps_for ok.own ok.calm hi hg hb (hfs _)) fun En σ H h => ?_
  obtain ⟨J, M, e, at0, h⟩ := h
  let step : D → MP.Env → MM Fl := fun d e => match bindT false tn d e with
      | some e' => denSs Y b e'
      | none => bad
  have h' : FinS X ER W J0 H0 J En (MM.bind (MM.bind (denL Y cs e) fun ds => orBad (itO kk ds)) (fun items => forL step items e) M) := by
    have e2 : ∀ M, denS Y (.for_ tn kk cs b) e M = MM.bind (MM.bind (denL Y cs e) fun ds => orBad (itO kk ds)) (fun items => forL step items e) M := by
      intro M
      show MM.bind (denL Y cs e) (fun ds => match itO kk ds with | none => bad | some items => forL step items e) M = _
      unfold MM.bind
      cases denL Y cs e M with
      | ok ds M1 => dsimp only; cases itO kk ds <;> rfl
      | exc _ _ _ => rfl
      | bad => rfl
    rw [e2] at h; exact h
  refine ⟨J, M, e, at0.hd, at0.sl, st_res at0 h' fun items M1 J1 H1 g1 a1 h1 it hit => ?_⟩
  have h1 := FinS.ext h1 g1.ext
  refine ⟨fun i m σ' H' => ∃ J' M' e', m = items.length - i ∧ At X J0 H0 J' M' H' σ' e' ∧ Ext J1 J' ∧ FinS X ER W J0 H0 J' En (forL step (items.drop i) e' M'),
    ⟨items.length, J1, M1, e, by simp, a1, .refl _, by rw [List.drop_zero]; exact h1⟩, ?_⟩
  rintro i m σ2 H2 ⟨J2, M2, e2, rfl, a2, x2, h2⟩
  obtain ⟨hstop, hgo⟩ := hit i J2 M2 H2 x2 a2.hd
  by_cases hlt : items.length ≤ i
  · refine .inl ⟨hstop hlt, ?_⟩
    rw [List.drop_of_length_le hlt] at h2
    exact h2 σ2 J2 H2 a2 (.refl _)
  · have hlt' : i < items.length := by omega
    obtain ⟨hgo1, hyld⟩ := hgo _ (List.getElem?_eq_getElem hlt')
    refine .inr ⟨hgo1, fun σ' H' => ∃ J' M' e', At X J0 H0 J' M' H' σ' e' ∧ Ext J1 J' ∧ FinS X ER W J0 H0 J' En (forL step (items.drop (i + 1)) e' M'),
      fun σ' H' ⟨J', M', e', q1, q2, q3⟩ => ⟨items.length - (i + 1), by omega, J', M', e', rfl, q1, q2, q3⟩, fun x H3 hy => ?_⟩
    obtain ⟨J3, g3, hd3, rx⟩ := hyld x H3 hy
    have a3 := a2.on g3 hd3
    rw [List.drop_eq_getElem_cons hlt'] at h2
    have h3 : FinS X ER W J0 H0 J2 En (MM.bind (step items[i] e2) (fun f => match f with
      | .nx e' => forL step (items.drop (i + 1)) e'
      | .rt d o => MM.pure (.rt d o)) M2) := h2
    have h3 := FinS.ext h3 g3.ext
    cases qb : bindT false tn items[i] e2 with
    | none =>
      have : step items[i] e2 = bad := by show (match bindT false tn items[i] e2 with | some e' => denSs Y b e' | none => bad) = _; rw [qb]
      rw [this] at h3
      exact h3.elim
    | some e' =>
      have es : step items[i] e2 = denSs Y b e' := by show (match bindT false tn items[i] e2 with | some e' => denSs Y b e' | none => bad) = _; rw [qb]
      rw [es] at h3
      refine ⟨J3, M2, items[i], e2, e', hd3, a3.sl, rx, qb, fun σ4 sl4 only => ?_⟩
      have a4 : At X J0 H0 J3 M2 H3 σ4 e' := by
        refine ⟨a3.go, a3.hd, sl4, fun j d c q1 q2 => ?_⟩
        obtain ⟨q3, q4⟩ := hnew qb j d q1
        have hw := only tn.ixs fun i hi => hi
        have h5 : σ2[j]? = some (some (V.ref c)) := by
          have := congrArg (fun l : L2.St => l[j]?) hw
          have h6 : (wipe σ2 tn.ixs)[j]? = some (some (V.ref c)) := by rw [← show (wipe σ4 tn.ixs)[j]? = (wipe σ2 tn.ixs)[j]? from this]; exact wipe_keep q2 q4
          exact (wipe_some h6).1
        exact a3.new j d c q3 h5
      refine ⟨J3, M2, e', a4, ?_⟩
      unfold MM.bind at h3
      cases q : denSs Y b e' M2 with
      | ok f M3 =>
        rw [q] at h3
        cases f with
        | nx e'' => exact fun σ' J' H' a' x => ⟨J', M3, e'', a', (x2.trans g3.ext).trans x, FinS.ext h3 x⟩
        | rt d o => exact h3
      | exc c p M3 => rw [q] at h3; exact h3
      | bad => rw [q] at h3; exact h3
end
end MP
end

section
set_option linter.all false
set_option Elab.async false
set_option maxRecDepth 100000
set_option maxHeartbeats 8000000
namespace MP
open PySem PySem.Spec PyProof.Rows L2
section
variable {S : Cs} {Y : Ctx} {ER : ExR} {k : Nat} {W : WX} {X : Cx} {J0 : Jt} {H0 : Hp}
/-- an own object is written -/
theorem At.upd {J : Jt} {M : Mem} {H : Hp} {σ : L2.St} {e : MP.Env} (a : At X J0 H0 J M H σ e) {i : Nat} {d0 d' : D} {b : Addr} {o : HO} (he : e[i]? = some (some (d0, true))) (hs : σ[i]? = some (some (V.ref b))) (r : ORep X.K X.w J o d') :
    At X J0 H0 J M (L2.upd H b o) σ (e.set i (some (d', true))) := by
  obtain ⟨b', h1, h2⟩ := a.sl.own i d0 he
  rw [hs] at h1; cases h1
  obtain ⟨hd', own'⟩ := Own.put (d' := d') (o := o) a.hd h2 r
  have hi : i < e.length := (List.getElem?_eq_some_iff.mp he).1
  refine ⟨a.go.put (a.new i d0 b he hs), hd', ⟨by simp [a.sl.len], fun j d hj => ?_, fun j d hj => ?_, fun j j' d d2 c q1 q2 q3 q4 => ?_⟩, fun j d c q1 q2 => ?_⟩
  · by_cases hij : i = j
    · subst hij; cases (set_self hj).1
    · rw [List.getElem?_set_ne hij] at hj
      exact a.sl.sh j d hj
  · by_cases hij : i = j
    · subst hij
      obtain ⟨e1, _⟩ := set_self hj
      cases e1
      exact ⟨b, hs, own'⟩
    · rw [List.getElem?_set_ne hij] at hj
      obtain ⟨c, q1, o', q2, q3, q4, q5⟩ := a.sl.own j d hj
      refine ⟨c, q1, o', ?_, q3, q4, q5⟩
      rw [upd_ne]
      · exact q2
      · rintro rfl
        exact hij (a.sl.apart i j d0 d c he hj hs q1)
  · have f : ∀ {j : Nat} {d : D}, (e.set i (some (d', true)))[j]? = some (some (d, true)) → ∃ d, e[j]? = some (some (d, true)) := by
      intro j d hj
      by_cases hij : i = j
      · subst hij; exact ⟨d0, he⟩
      · rw [List.getElem?_set_ne hij] at hj; exact ⟨d, hj⟩
    obtain ⟨_, q1⟩ := f q1
    obtain ⟨_, q2⟩ := f q2
    exact a.sl.apart j j' _ _ c q1 q2 q3 q4
  · by_cases hij : i = j
    · subst hij
      rw [hs] at q2; cases q2
      exact a.new i d0 b he hs
    · rw [List.getElem?_set_ne hij] at q1
      exact a.new j d c q1 q2
theorem ownAt_some {e : MP.Env} {i : Nat} {d : D} (h : ownAt e i = some d) : e[i]? = some (some (d, true)) := by
  unfold ownAt at h
  split at h
  · rename_i x hx; cases h; exact hx
  · cases h
theorem At.lst {J : Jt} {M : Mem} {H : Hp} {σ : L2.St} {e : MP.Env} (a : At X J0 H0 J M H σ e) {i : Nat} {l : List D} (he : e[i]? = some (some (.lst l, true))) : ∃ b xs, σ[i]? = some (some (V.ref b)) ∧ H b = some (.lst xs) ∧ RepL X.K X.w J xs l := by
  obtain ⟨b, h1, o, h2, _, _, h3⟩ := a.sl.own i _ he
  cases h3 with
  | lst r => exact ⟨b, _, h1, h2, r⟩
theorem At.dct {J : Jt} {M : Mem} {H : Hp} {σ : L2.St} {e : MP.Env} (a : At X J0 H0 J M H σ e) {i : Nat} {ks vs : List D} (he : e[i]? = some (some (.dct ks vs, true))) : ∃ b kvs, σ[i]? = some (some (V.ref b)) ∧ H b = some (.dK kvs) ∧ (kvs.map (·.1)).Nodup ∧ ks = kvs.map (fun p => keyD p.1) ∧ RepL X.K X.w J (kvs.map (·.2)) vs := by
  obtain ⟨b, h1, o, h2, _, _, h3⟩ := a.sl.own i _ he
  cases h3 with
  | dct nd hk r => exact ⟨b, _, h1, h2, nd, hk, r⟩
theorem hfew1 {a : Expr} {cpos : Pos} {env : PySem.Env} (na : ∀ rest env, starEach (a :: rest) env = (false, eval a env) :: starEach rest env) :
    ((backTo cpos (starEach (a :: []) env)).all (fun x => !x.1) && (backToKw cpos (keywordEach [] env)).all (fun x => x.1.isSome) && decide ((a :: []).length + ([] : List Keyword).length + (if ([] : List Keyword).isEmpty then 0 else 1) < 30)) = true := by
  rw [na]; rfl
theorem hfew2 {a b : Expr} {cpos : Pos} {env : PySem.Env} (na : ∀ rest env, starEach (a :: rest) env = (false, eval a env) :: starEach rest env) (nb : ∀ rest env, starEach (b :: rest) env = (false, eval b env) :: starEach rest env) :
    ((backTo cpos (starEach (a :: b :: []) env)).all (fun x => !x.1) && (backToKw cpos (keywordEach [] env)).all (fun x => x.1.isSome) && decide ((a :: b :: []).length + ([] : List Keyword).length + (if ([] : List Keyword).isEmpty then 0 else 1) < 30)) = true := by
  rw [na, nb]; rfl
theorem fin_own0 {f : List D → MM Fl} {J : Jt} {En : Ends} {M : Mem} : ∀ (o : Option D), FinS X ER W J0 H0 J En ((match o with
    | some (.lst l) => f l
    | _ => bad : MM Fl) M) → ∃ l, o = some (.lst l) ∧ FinS X ER W J0 H0 J En (f l M)
  | none, h => h.elim
  | some (.lst l), h => ⟨l, rfl, h⟩
  | some .non, h | some (.bl _), h | some (.int _), h | some (.str _), h | some (.tup _), h | some (.dct _ _), h | some (.ins _ _), h | some (.cls _), h | some (.err _ _), h | some (.lam _ _), h | some (.unp _), h | some (.mtb _), h | some (.scr _), h => h.elim
theorem fin_own {o : Option D} {f : List D → MM Fl} {J : Jt} {En : Ends} {M : Mem} (h : FinS X ER W J0 H0 J En ((match o with
    | some (.lst l) => f l
    | _ => bad : MM Fl) M)) : ∃ l, o = some (.lst l) ∧ FinS X ER W J0 H0 J En (f l M) := by
  exact fin_own0 o h
theorem fin_if {b : Bool} {x : MM Fl} {J : Jt} {En : Ends} {M : Mem} (h : FinS X ER W J0 H0 J En ((if b = true then x else bad) M)) : b = true ∧ FinS X ER W J0 H0 J En (x M) := by
  cases b with
  | true => exact ⟨rfl, h⟩
  | false => exact h.elim
theorem fin_ifP {b : Prop} [Decidable b] {x : MM Fl} {J : Jt} {En : Ends} {M : Mem} (h : FinS X ER W J0 H0 J En ((if b then x else bad) M)) : b ∧ FinS X ER W J0 H0 J En (x M) := by
  by_cases q : b
  · rw [if_pos q] at h; exact ⟨q, h⟩
  · rw [if_neg q] at h; exact h.elim
/-- list.pop(k), its length's bound read off the heap -/
theorem mt_popAt' : MtR X "list.pop" (fun x vs H Q => ∃ l xs z, x = .ref l ∧ vs = [z] ∧ H l = some (.lst xs) ∧ (xs.length ≤ sizeLine → ∃ i k y, z = .int i ∧ -(2 ^ 63) ≤ i ∧ i < 2 ^ 63 ∧ seqIndex? i xs.length = some k ∧ xs[k]? = some y ∧ Q y (L2.upd H l (.lst (xs.eraseIdx k))))) := by
  intro pins s σ H x vs v us Q I rx rv h
  obtain ⟨l, xs, z, h1, h2, h3, h4⟩ := h
  obtain ⟨i, k, y, e, q⟩ := h4 (I.lstM h3).1
  subst e
  exact mt_popAt pins s σ H x vs v us Q I rx rv ⟨l, xs, i, k, y, h1, h2, h3, q⟩
/-- xs.append(e) -/
theorem s_append {x : Str} {i : Nat} {a : Expr} {c : C} {p ap cp pos : Pos} (ok : XOk S Y ER k W X) (hx : slot S x = some i) (ha : PE X a (rdE Y ER W X c)) (na : ∀ rest env, starEach (a :: rest) env = (false, eval a env) :: starEach rest env) (hl : (ap.endLine == cp.line) = true) :
    PS X (.Expr (.Call (.Attribute (.Name x p) "append" ap) [a] [] cp) pos) (rdS ER W X J0 H0 (denS Y (.append i c))) := by
  refine PS.imp (ps_expr (pe_bm PySem.F.plainAttrs_list PySem.F.slot_list_append PySem.F.type_list_append mt_append (slot_read ok hx) (pa_cons ha pa_nil (na _ _)) rfl (hfew1 na) hl (na _ _) rfl)) fun En σ H h => ?_
  obtain ⟨J, M, e, a0, h⟩ := h
  obtain ⟨l, hl, h⟩ := fin_own (f := fun l => MM.bind (den Y c e) fun x => if l.length < szLine then MM.pure (.nx (e.set i (some (.lst (l ++ [x.1]), true)))) else bad) h
  have he := ownAt_some hl
  obtain ⟨b, xs, h1, h2, h3⟩ := a0.lst he
  refine ⟨_, h1, .inl ⟨rfl, _, .inl (.inl h2)⟩, ?_⟩
  refine st_v a0 h fun y M1 J1 H1 v g1 a1 r1 h' => ?_
  obtain ⟨hz, h'⟩ := fin_ifP h'
  obtain ⟨b', xs', q1, q2, q3⟩ := a1.lst he
  rw [h1] at q1; cases q1
  refine ⟨b, xs', v, rfl, rfl, q2, by rw [q3.len, ← szLine_eq]; exact hz, ?_⟩
  exact h' σ J1 _ (a1.upd he h1 (.lst (q3.app (.one r1)))) (.refl _)
/-- xs.extend(e) -/
theorem s_extend {x : Str} {i : Nat} {a : Expr} {c : C} {p ap cp pos : Pos} (ok : XOk S Y ER k W X) (hx : slot S x = some i) (ha : PE X a (rdE Y ER W X c)) (na : ∀ rest env, starEach (a :: rest) env = (false, eval a env) :: starEach rest env) (hl : (ap.endLine == cp.line) = true) :
    PS X (.Expr (.Call (.Attribute (.Name x p) "extend" ap) [a] [] cp) pos) (rdS ER W X J0 H0 (denS Y (.extend i c))) := by
  refine PS.imp (ps_expr (pe_bm PySem.F.plainAttrs_list PySem.F.slot_list_extend PySem.F.type_list_extend mt_extend (slot_read ok hx) (pa_cons ha pa_nil (na _ _)) rfl (hfew1 na) hl (na _ _) rfl)) fun En σ H h => ?_
  obtain ⟨J, M, e, a0, h⟩ := h
  obtain ⟨l, hl, h⟩ := fin_own (f := fun l => MM.bind (den Y c e) fun x => match x.1 with
      | .lst r => if l.length + r.length ≤ szLine then MM.pure (.nx (e.set i (some (.lst (l ++ r), true)))) else bad
      | _ => bad) h
  have he := ownAt_some hl
  obtain ⟨b, xs, h1, h2, h3⟩ := a0.lst he
  refine ⟨_, h1, .inl ⟨rfl, _, .inl (.inl h2)⟩, ?_⟩
  refine st_v a0 h fun y M1 J1 H1 v g1 a1 r1 h' => ?_
  obtain ⟨d, o⟩ := y
  cases d <;> first | exact h'.elim | skip
  obtain ⟨hz, h'⟩ := fin_ifP h'
  obtain ⟨b', xs', q1, q2, q3⟩ := a1.lst he
  rw [h1] at q1; cases q1
  cases r1 with
  | lst j rl =>
    refine ⟨b, _, xs', _, rfl, rfl, q2, a1.hd.I _ _ j, by rw [q3.len, rl.len, ← szLine_eq]; exact hz, ?_⟩
    exact h' σ J1 _ (a1.upd he h1 (.lst (q3.app rl))) (.refl _)
/-- xs.insert(k, e) -/
theorem s_insert {x : Str} {i : Nat} {a b : Expr} {ck c : C} {p ap cp pos : Pos} (ok : XOk S Y ER k W X) (hx : slot S x = some i) (ha : PE X a (rdE Y ER W X ck)) (hb : PE X b (rdE Y ER W X c)) (na : ∀ rest env, starEach (a :: rest) env = (false, eval a env) :: starEach rest env)
    (nb : ∀ rest env, starEach (b :: rest) env = (false, eval b env) :: starEach rest env) (hl : (ap.endLine == cp.line) = true) :
    PS X (.Expr (.Call (.Attribute (.Name x p) "insert" ap) [a, b] [] cp) pos) (rdS ER W X J0 H0 (denS Y (.insert i ck c))) := by
  have ns : NoStar [a, b] := NoStar.cons na (NoStar.cons nb NoStar.nil)
  refine PS.imp (ps_expr (pe_bm PySem.F.plainAttrs_list PySem.F.slot_list_insert PySem.F.type_list_insert mt_insert (slot_read ok hx) (pa_cons ha (pa_cons hb pa_nil (nb _ _)) (na _ _)) rfl (hfew2 na nb) hl (na _ _) (ns.tail.back _ _))) fun En σ H h => ?_
  obtain ⟨J, M, e, a0, h⟩ := h
  obtain ⟨l, hl, h⟩ := fin_own (f := fun l => MM.bind (den Y ck e) fun y => MM.bind (den Y c e) fun x => match y.1 with
      | .int j => if 0 ≤ j && j ≤ l.length && l.length < szLine then MM.pure (.nx (e.set i (some (.lst (l.take j.toNat ++ [x.1] ++ l.drop j.toNat), true)))) else bad
      | _ => bad) h
  have he := ownAt_some hl
  obtain ⟨b, xs, h1, h2, h3⟩ := a0.lst he
  refine ⟨_, h1, .inl ⟨rfl, _, .inl (.inl h2)⟩, ?_⟩
  refine st_v a0 h fun y M1 J1 H1 v g1 a1 r1 h' => ?_
  refine st_v a1 h' fun z M2 J2 H2 u g2 a2 r2 h'' => ?_
  obtain ⟨d, o⟩ := y
  cases d <;> first | exact h''.elim | skip
  obtain ⟨hz, h''⟩ := fin_if h''
  simp only [Bool.and_eq_true, decide_eq_true_eq] at hz
  obtain ⟨b', xs', q1, q2, q3⟩ := a2.lst he
  rw [h1] at q1; cases q1
  cases r1
  have := q3.len
  have sz : szLine = 16777216 := rfl
  refine ⟨b, xs', _, u, rfl, rfl, q2, by rw [q3.len, ← szLine_eq]; exact hz.2, hz.1.1, by omega, ?_⟩
  exact h'' σ J2 _ (a2.upd he h1 (.lst (((q3.take _).app (.one r2)).app (q3.drop _)))) (.refl _)
theorem popL_some {r : List D} {k d r' : D} (h : popL (.lst r) k = some (d, r')) : ∃ (i : Int) (j : Nat), k = .int i ∧ MP.ixN r.length i = some j ∧ r[j]? = some d ∧ r' = .lst (r.eraseIdx j) := by
  unfold popL at h
  cases k <;> simp only [reduceCtorEq] at h
  obtain ⟨j, h1, h2⟩ := Option.bind_eq_some_iff.mp h
  obtain ⟨y, h3, h4⟩ := Option.map_eq_some_iff.mp h2
  cases h4
  exact ⟨_, j, rfl, h1, h3, rfl⟩
/-- a pop's place, by values -/
theorem pop_at {J : Jt} {xs : List V} {r : List D} {i : Int} {j : Nat} {d : D} (rl : RepL X.K X.w J xs r) (hl : xs.length ≤ sizeLine) (h1 : MP.ixN r.length i = some j) (h2 : r[j]? = some d) : -(2 ^ 63) ≤ i ∧ i < 2 ^ 63 ∧ ∃ y, seqIndex? i xs.length = some j ∧ xs[j]? = some y ∧ Rep X.K X.w J y d := by
  rw [← ixN_eq, ← rl.len] at h1
  obtain ⟨s1, s2, s3, s4⟩ := ixN_seq h1
  obtain ⟨y, y1, y2⟩ := rl.get h2
  have sz : sizeLine = 16777216 := by rw [← szLine_eq]; rfl
  exact ⟨by omega, by omega, y, s1, y1, y2⟩
/-- y.pop(k), y a list of the frame's own -/
def rdPop (ER : ExR) (W : WX) (Y : Ctx) (X : Cx) (J0 : Jt) (H0 : Hp) (j : Nat) (ck : C) : TE := fun σ H Q => ∃ J M e r, At X J0 H0 J M H σ e ∧ e[j]? = some (some (.lst r, true)) ∧
  ∃ En, ∃ f : D × Bool → MM Fl, FinS X ER W J0 H0 J En (MM.bind (den Y ck e) f M) ∧ ∀ y M1 J1 H1 v, Ext J J1 → FinS X ER W J0 H0 J1 En (f y M1) → At X J0 H0 J1 M1 H1 σ e → Rep X.K X.w J1 v y.1 → ∃ d r', popL (.lst r) y.1 = some (d, r') ∧ ∀ H2 u, At X J0 H0 J1 M1 H2 σ (e.set j (some (r', true))) → Rep X.K X.w J1 u d → Q u H2
theorem e_pop {y : Str} {j : Nat} {a : Expr} {ck : C} {p ap cp : Pos} (ok : XOk S Y ER k W X) (hy : slot S y = some j) (ha : PE X a (rdE Y ER W X ck)) (na : ∀ rest env, starEach (a :: rest) env = (false, eval a env) :: starEach rest env) (hl : (ap.endLine == cp.line) = true) :
    PE X (.Call (.Attribute (.Name y p) "pop" ap) [a] [] cp) (rdPop ER W Y X J0 H0 j ck) := by
  refine ⟨fun pins s σ H Q I h => ?_⟩
  obtain ⟨J, M, e, r, a0, he, En, f, h, kk⟩ := h
  obtain ⟨b, xs, h1, h2, h3⟩ := a0.lst he
  refine (pe_bm PySem.F.plainAttrs_list PySem.F.slot_list_pop PySem.F.type_list_pop mt_popAt' (slot_read ok hy) (pa_cons ha pa_nil (na _ _)) rfl (hfew1 na) hl (na _ _) rfl).run pins s σ H Q I ⟨_, h1, .inl ⟨rfl, _, .inl (.inl h2)⟩, ?_⟩
  refine st_v a0 h fun z M1 J1 H1 v g1 a1 r1 h' => ?_
  obtain ⟨d, r', hp, q⟩ := kk z M1 J1 H1 v g1.ext h' a1 r1
  obtain ⟨i, jj, ei, p1, p2, rfl⟩ := popL_some hp
  obtain ⟨b', xs', q1, q2, q3⟩ := a1.lst he
  rw [h1] at q1; cases q1
  refine ⟨b, xs', v, rfl, rfl, q2, fun hlen => ?_⟩
  obtain ⟨l1, l2, u, l3, l4, l5⟩ := pop_at q3 hlen p1 p2
  have ev : v = .int i := by rw [ei] at r1; cases r1; rfl
  exact ⟨i, jj, u, ev, l1, l2, l3, l4, q _ u (a1.upd he h1 (.lst (q3.eraseIdx jj))) l5⟩
end
end MP
end

section
set_option linter.all false
set_option Elab.async false
set_option maxRecDepth 100000
set_option maxHeartbeats 8000000
namespace MP
open PySem PySem.Spec PyProof.Rows L2
section
variable {S : Cs} {Y : Ctx} {ER : ExR} {k : Nat} {W : WX} {X : Cx} {J0 : Jt} {H0 : Hp}
theorem fin_pop {o : Option (D × D)} {f : D → D → MM Fl} {J : Jt} {En : Ends} {M : Mem} (h : FinS X ER W J0 H0 J En ((match o with
    | some (d, r') => f d r'
    | none => bad : MM Fl) M)) : ∃ d r', o = some (d, r') ∧ FinS X ER W J0 H0 J En (f d r' M) := by
  match o, h with
  | some (d, r'), h => exact ⟨d, r', rfl, h⟩
  | none, h => exact h.elim
/-- x = y.pop(k) -/
theorem s_setPop {x y : Str} {pi pj : Nat × Bool} {a : Expr} {ck : C} {px p ap cp pos : Pos} (ok : XOk S Y ER k W X) (hx : tgName S x = some pi) (hy : slot S y = some pj.1) (ha : PE X a (rdE Y ER W X ck)) (na : ∀ rest env, starEach (a :: rest) env = (false, eval a env) :: starEach rest env) (hl : (ap.endLine == cp.line) = true) :
    PS X (.Assign [.Name x px] (.Call (.Attribute (.Name y p) "pop" ap) [a] [] cp) pos) (rdS ER W X J0 H0 (denS Y (.setPop pi.1 pj.1 ck))) := by
  obtain ⟨hi, hlc, hf, _, _, _⟩ := loc_of ok hx
  refine PS.imp (ps_set ok.nodup hi hlc (e_pop (J0 := J0) (H0 := H0) ok hy ha na hl) rfl hf) fun En σ H h => ?_
  obtain ⟨J, M, e, a0, h⟩ := h
  obtain ⟨r, hr, h⟩ := fin_own (f := fun r => if pi.1 != pj.1 then MM.bind (den Y ck e) fun y => match popL (.lst r) y.1 with
      | some (d, r') => MM.pure (.nx ((e.set pj.1 (some (r', true))).set pi.1 (some (d, false))))
      | none => bad
      else bad) h
  obtain ⟨hne, h⟩ := fin_if h
  refine ⟨J, M, e, r, a0, ownAt_some hr, En, _, h, fun y M1 J1 H1 v x1 h1 a1 r1 => ?_⟩
  obtain ⟨d, r', e1, h1⟩ := fin_pop h1
  exact ⟨d, r', e1, fun H2 u a2 r2 => h1 _ J1 H2 (a2.put r2) (.refl _)⟩
/-- x.append(y.pop(k)) -/
theorem s_appPop {x y : Str} {i j : Nat} {a : Expr} {ck : C} {px p ap cp ap2 cp2 pos : Pos} (ok : XOk S Y ER k W X) (hx : slot S x = some i) (hy : slot S y = some j) (ha : PE X a (rdE Y ER W X ck)) (na : ∀ rest env, starEach (a :: rest) env = (false, eval a env) :: starEach rest env)
    (hl : (ap.endLine == cp.line) = true) (hl2 : (ap2.endLine == cp2.line) = true) :
    PS X (.Expr (.Call (.Attribute (.Name x px) "append" ap2) [.Call (.Attribute (.Name y p) "pop" ap) [a] [] cp] [] cp2) pos) (rdS ER W X J0 H0 (denS Y (.appPop i j ck))) := by
  refine PS.imp (ps_expr (pe_bm PySem.F.plainAttrs_list PySem.F.slot_list_append PySem.F.type_list_append mt_append (slot_read ok hx) (pa_cons (e_pop (J0 := J0) (H0 := H0) ok hy ha na hl) pa_nil rfl) rfl rfl hl2 rfl rfl)) fun En σ H h => ?_
  obtain ⟨J, M, e, a0, h⟩ := h
  have h0 : FinS X ER W J0 H0 J En ((match ownAt e i with
    | some (.lst l) => (match ownAt e j with
      | some (.lst r) => if l.length < szLine && i != j then MM.bind (den Y ck e) fun y => match popL (.lst r) y.1 with
        | some (d, r') => MM.pure (.nx ((e.set j (some (r', true))).set i (some (.lst (l ++ [d]), true))))
        | none => bad
        else bad
      | _ => bad)
    | _ => bad : MM Fl) M) := by
    have e1 : denS Y (.appPop i j ck) e = (match ownAt e i, ownAt e j with
    | some (.lst l), some (.lst r) => if l.length < szLine && i != j then MM.bind (den Y ck e) fun y => match popL (.lst r) y.1 with
      | some (d, r') => MM.pure (.nx ((e.set j (some (r', true))).set i (some (.lst (l ++ [d]), true))))
      | none => bad
      else bad
    | _, _ => bad) := rfl
    rw [e1] at h
    generalize ownAt e i = oi at h ⊢
    generalize ownAt e j = oj at h ⊢
    cases oi with
    | none => exact h.elim
    | some di =>
      cases di <;> first | exact h.elim | skip
      cases oj with
      | none => exact h.elim
      | some dj =>
        cases dj <;> first | exact h.elim | exact h
  obtain ⟨l, hli, h1⟩ := fin_own h0
  obtain ⟨r, hrj, h2⟩ := fin_own h1
  obtain ⟨hc, h3⟩ := fin_if h2
  simp only [Bool.and_eq_true, decide_eq_true_eq] at hc
  have he := ownAt_some hli
  have hne : i ≠ j := by simpa using hc.2
  obtain ⟨b, xs, q1, q2, q3⟩ := a0.lst he
  refine ⟨_, q1, .inl ⟨rfl, _, .inl (.inl q2)⟩, ?_⟩
  refine ⟨J, M, e, r, a0, ownAt_some hrj, En, _, h3, fun y M1 J1 H1 v x1 h4 a1 r1 => ?_⟩
  obtain ⟨d, r', e1, h5⟩ := fin_pop h4
  refine ⟨d, r', e1, fun H2 u a2 r2 => ?_⟩
  have he2 : (e.set j (some (r', true)))[i]? = some (some (.lst l, true)) := by rw [List.getElem?_set_ne hne.symm]; exact he
  obtain ⟨b', xs', p1, p2, p3⟩ := a2.lst he2
  rw [q1] at p1; cases p1
  exact ⟨b, xs', u, rfl, rfl, p2, by rw [p3.len, ← szLine_eq]; exact hc.1, h5 σ J1 _ (a2.upd he2 q1 (.lst (p3.app (.one r2)))) (.refl _)⟩
/-! ### op= -/
theorem fin_int {f : Int → MM Fl} {J : Jt} {En : Ends} {M : Mem} : ∀ (o : Option (Option (D × Bool))), FinS X ER W J0 H0 J En ((match o with
    | some (some (.int a, _)) => f a
    | _ => bad : MM Fl) M) → ∃ a b, o = some (some (.int a, b)) ∧ FinS X ER W J0 H0 J En (f a M)
  | none, h | some none, h => h.elim
  | some (some (.int a, b)), h => ⟨a, b, rfl, h⟩
  | some (some (.non, _)), h | some (some (.bl _, _)), h | some (some (.str _, _)), h | some (some (.tup _, _)), h | some (some (.lst _, _)), h | some (some (.dct _ _, _)), h | some (some (.ins _ _, _)), h | some (some (.cls _, _)), h | some (some (.err _ _, _)), h | some (some (.lam _ _, _)), h | some (some (.unp _, _)), h | some (some (.mtb _, _)), h | some (some (.scr _, _)), h => h.elim
theorem s_aug {x : Str} {pi : Nat × Bool} {a : Expr} {op : Operator} {o : BOp} {c : C} {px pos : Pos} (ok : XOk S Y ER k W X) (hx : tgName S x = some pi) (ho : cOp op = some o) (ha : PE X a (rdE Y ER W X c)) :
    PS X (.AugAssign (.Name x px) op a pos) (rdS ER W X J0 H0 (denS Y (.aug pi.1 o c))) := by
  obtain ⟨hi, hlc, hf, _, _, _⟩ := loc_of ok hx
  have rd : ∀ (ti : TIp), PIp X op ti → (∀ (i j z : Int) H (Q : VK), augI o i j = some z → Q (.int z) H → ti (.int i) (.int j) H Q) → PS X (.AugAssign (.Name x px) op a pos) (rdS ER W X J0 H0 (denS Y (.aug pi.1 o c))) := by
    intro ti hti hr
    refine PS.imp (ps_aug ok.nodup hi hlc ha hti hf) fun En σ H h => ?_
    obtain ⟨J, M, e, a0, h⟩ := h
    obtain ⟨i, b, he, h⟩ := fin_int (f := fun i => MM.bind (den Y c e) fun x => match x.1 with
      | .int b => (match augI o i b with
        | some z => MM.pure (Fl.nx (e.set pi.1 (some (.int z, false))))
        | none => bad)
      | _ => bad) _ h
    have hv : σ[pi.1]? = some (some (V.int i)) := by
      cases b with
      | false =>
        obtain ⟨v, h1, h2⟩ := a0.sl.sh _ _ he
        cases h2; exact h1
      | true =>
        obtain ⟨v, h1, _, _, _, _, h2⟩ := a0.sl.own _ _ he
        cases h2
    refine ⟨_, hv, ?_⟩
    refine st_v a0 h fun y M1 J1 H1 v g1 a1 r1 h' => ?_
    obtain ⟨d, _⟩ := y
    cases d <;> first | exact h'.elim | skip
    rename_i n
    cases r1
    dsimp only at h'
    cases hz : augI o i n with
    | none => rw [hz] at h'; exact h'.elim
    | some z =>
      rw [hz] at h'
      exact hr i n z H1 _ hz (h' _ J1 H1 (a1.put (.int z)) (.refl _))
  cases op <;> simp only [cOp, reduceCtorEq, Option.some.injEq] at ho <;> subst ho
  · exact rd _ ip_add fun i j z H Q e h => ⟨i, j, rfl, rfl, by cases e; exact h⟩
  · exact rd _ ip_sub fun i j z H Q e h => ⟨i, j, rfl, rfl, by cases e; exact h⟩
  · refine rd (fun x y H Q => ∃ i j : Int, x = .int i ∧ y = .int j ∧ mulOk i j = true ∧ Q (.int (i * j)) H) ?_ fun i j z H Q e h => ⟨i, j, rfl, rfl, ?_⟩
    · intro pins s σ H x y v u Q I r1 r2 h
      obtain ⟨i, j, rfl, rfl, hm, q⟩ := h
      obtain ⟨t, rfl⟩ := r1
      obtain ⟨t', rfl⟩ := r2
      exact imul_int ⟨.int _, H, I.tok _, ⟨_, rfl⟩, q⟩ (log2_mulOk hm)
    · unfold augI at e
      dsimp only at e
      split at e
      · rename_i hm; cases e; exact ⟨hm, h⟩
      · cases e
  all_goals exact rd (fun _ _ _ _ => False) (fun _ _ _ _ _ _ _ _ _ _ _ _ h => h.elim) fun i j z H Q e h => by cases e
theorem plain_aug {i : Expr} {n : Nat} {c : C} (h : cE n S i = some c) : ∀ ov iv new, augStore i ov iv new = (do holding [new, ov, iv] (setItem ov iv new); release [new, ov, iv] []; pure .next) := by
  intro ov iv new
  cases i <;> first | rfl | skip
  cases n <;> simp [cE] at h
theorem plain_sub {o i : Expr} {n : Nat} {c : C} {pos : Pos} {env : PySem.Env} (h : cE n S i = some c) : ∀ v, assign (.Subscript o i pos) env v = (do
      let ov ← holding [v] (eval o env)
      let iv ← holding [v, ov] (eval i env)
      standAt pos
      holding [v, ov, iv] (setItem ov iv v)
      release [v, ov, iv] []) := by
  intro v
  cases i <;> first | rfl | skip
  cases n <;> simp [cE] at h
end
end MP
end

section
set_option linter.all false
set_option Elab.async false
set_option maxRecDepth 100000
set_option maxHeartbeats 8000000
namespace MP
open PySem PySem.Spec PyProof.Rows L2
section
variable {S : Cs} {Y : Ctx} {ER : ExR} {k : Nat} {W : WX} {X : Cx} {J0 : Jt} {H0 : Hp}
/-! ### targets -/
def FinE (X : Cx) (ER : ExR) (W : WX) (J0 : Jt) (H0 : Hp) (J : Jt) (Q : L2.St → Hp → Prop) (r : R MP.Env) : Prop := match r with
  | .ok e' M' => ∀ σ' J' H', At X J0 H0 J' M' H' σ' e' → Ext J J' → Q σ' H'
  | .exc c p M' => ∀ cv dd σ' J' H', Go J0 H0 J' H' → Hold X.K X.w J' M' H' → ER c p J' H' cv dd → W cv dd σ' H'
  | .bad => False
theorem FinE.ext {J J1 : Jt} {Q : L2.St → Hp → Prop} {r : R MP.Env} (h : FinE X ER W J0 H0 J Q r) (x : Ext J J1) : FinE X ER W J0 H0 J1 Q r := by
  cases r with
  | ok e' M' => exact fun σ' J' H' a y => h σ' J' H' a (x.trans y)
  | exc c p M' => exact h
  | bad => exact h
theorem ge_v {c : C} {J : Jt} {M : Mem} {H : Hp} {σ : L2.St} {e : MP.Env} {Q0 : L2.St → Hp → Prop} {f : D × Bool → MM MP.Env} {Q : VK} (a : At X J0 H0 J M H σ e) (h : FinE X ER W J0 H0 J Q0 (MM.bind (den Y c e) f M))
    (k : ∀ x M1 J1 H1 v, Go J H J1 H1 → At X J0 H0 J1 M1 H1 σ e → Rep X.K X.w J1 v x.1 → FinE X ER W J0 H0 J1 Q0 (f x M1) → Q v H1) : rdE Y ER W X c σ H Q := by
  refine ⟨J, M, e, a.hd, a.sl, ?_⟩
  unfold MM.bind at h
  cases q : den Y c e M with
  | ok y M1 =>
    rw [q] at h
    intro J1 H1 g hd1 v r
    obtain ⟨J2, g2, hd2, r2⟩ := r.share g hd1
    exact k y M1 J2 H1 v g2 (a.on g2 hd2) r2 (FinE.ext h g2.ext)
  | exc c p M1 =>
    rw [q] at h
    exact fun cv dd J' H' g hd' er => h cv dd σ J' H' (a.go.trans g) hd' er
  | bad => rw [q] at h; exact h.elim
def gT (ER : ExR) (W : WX) (Y : Ctx) (X : Cx) (J0 : Jt) (H0 : Hp) (t : Tg) : TG := fun v σ H Q => ∃ J M d e, At X J0 H0 J M H σ e ∧ Rep X.K X.w J v d ∧ FinE X ER W J0 H0 J Q (asgG Y t d e M)
def gTs (ER : ExR) (W : WX) (Y : Ctx) (X : Cx) (J0 : Jt) (H0 : Hp) (ts : List Tg) : TGs := fun vs σ H Q => ∃ J M ds e, At X J0 H0 J M H σ e ∧ RepL X.K X.w J vs ds ∧ FinE X ER W J0 H0 J Q (asgGs Y ts ds e M)
theorem PSet.or {t t' : TSet} (h : PSet X t) (h' : PSet X t') : PSet X (fun o i v H Q => t o i v H Q ∨ t' o i v H Q) := by
  intro pins s σ H o i v ov iv u Q I r1 r2 r3 h0
  rcases h0 with h0 | h0
  · exact h pins s σ H o i v ov iv u Q I r1 r2 r3 h0
  · exact h' pins s σ H o i v ov iv u Q I r1 r2 r3 h0
theorem PG.imp {e : Expr} {t t' : TG} (h : PG X e t) (f : ∀ v σ H Q, t' v σ H Q → t v σ H Q) : PG X e t' := ⟨fun pins s σ H v u Q I r q => h.run pins s σ H v u Q I r (f v σ H Q q)⟩
theorem PGs.imp {e : List Expr} {t t' : TGs} (h : PGs X e t) (f : ∀ v σ H Q, t' v σ H Q → t v σ H Q) : PGs X e t' := ⟨fun pins s σ H v u Q I r q => h.run pins s σ H v u Q I r (f v σ H Q q)⟩
/-- a store of a value into an own object -/
theorem put_own {J : Jt} {M : Mem} {H : Hp} {σ : L2.St} {e : MP.Env} {i : Nat} {x x' kd d : D} {b : Addr} {kv v : V} (a : At X J0 H0 J M H σ e) (he : e[i]? = some (some (x, true))) (hs : σ[i]? = some (some (V.ref b))) (hp : putO x kd d = some x') (rk : Rep X.K X.w J kv kd) (rv : Rep X.K X.w J v d)
    {Q : Hp → Prop} (q : ∀ H', At X J0 H0 J M H' σ (e.set i (some (x', true))) → Q H') : rSetL (.ref b) kv v H Q ∨ rSetD (.ref b) kv v H Q := by
  cases x <;> (try (cases kd <;> simp [putO] at hp; done))
  · rename_i l
    cases kd <;> simp only [putO, reduceCtorEq] at hp
    obtain ⟨j, h1, rfl⟩ := Option.map_eq_some_iff.mp hp
    obtain ⟨b', xs, p1, p2, p3⟩ := a.lst he
    rw [hs] at p1; cases p1
    cases rk
    exact .inl ⟨b, xs, _, j, rfl, rfl, p2, by rw [ixN_eq, p3.len]; exact h1, q _ (a.upd he hs (.lst (p3.set rv j)))⟩
  · rename_i ks vs
    have hp : (if isKey kd && decide (ks.length < 1000000) then let r := putKey kd d ks vs; some (D.dct r.1 r.2) else none) = some x' := by
      cases kd <;> exact hp
    split at hp
    · rename_i hc
      simp only [Bool.and_eq_true, decide_eq_true_eq] at hc
      cases hp
      obtain ⟨b', kvs, p1, p2, p3, p4, p5⟩ := a.dct he
      rw [hs] at p1; cases p1
      obtain ⟨k, e1, e2⟩ := keyD_of hc.1 rk
      subst e1 e2
      subst p4
      obtain ⟨i1, i2, i3⟩ := putKey_rep rv k p3 p5
      have hl : kvs.length < sizeLine := by
        rw [← szLine_eq]
        have : kvs.length < 1000000 := by simpa using hc.2
        have sz : szLine = 16777216 := rfl
        omega
      exact .inr ⟨b, _, rfl, DPut.k p2 hl, q _ (a.upd he hs (.dct i1 i2 i3))⟩
    · cases hp
/-- a store into a mutable list that others hold too -/
theorem put_mt {J : Jt} {M : Mem} {H : Hp} {σ : L2.St} {e : MP.Env} {n : Nat} {l l' : List D} {b : Addr} (a : At X J0 H0 J M H σ e) (hb : J.ρ[n]? = some b) {xs : List V} (r : RepL X.K X.w J xs l') (hM : M[n]? = some (.lst l)) :
    At X J0 H0 J (M.set n (.lst l')) (L2.upd H b (.lst xs)) σ e := by
  have hbm : b ∈ J.ρ := List.mem_of_getElem? hb
  obtain ⟨a0, o0, q1, q2, q3, _⟩ := a.hd.m n _ hM
  rw [hb] at q1; cases q1
  have hnl : n < M.length := (List.getElem?_eq_some_iff.mp hM).1
  refine ⟨⟨a.go.ext, a.go.newI, a.go.newR, a.go.newC, fun c u hc hr => ?_, fun c hc => ?_⟩, ⟨fun c u hc => ?_, by simp [a.hd.len], fun m mo hm => ?_, a.hd.nd, fun s d hs => ?_⟩, ⟨a.sl.len, a.sl.sh, fun i d he => ?_, a.sl.apart⟩, a.new⟩
  · rw [upd_ne]
    · exact a.go.keep c u hc hr
    · rintro rfl
      rcases a.go.newR _ hbm with h | h
      · exact hr.1 h
      · rw [hc] at h; cases h
  · by_cases hcb : c = b
    · subst hcb; rw [upd_same]; rfl
    · rw [upd_ne hcb]; exact a.go.keepR c hc
  · rw [upd_ne]
    · exact a.hd.I c u hc
    · rintro rfl; rw [q3] at hc; cases hc
  · by_cases hmn : n = m
    · subst hmn
      rw [List.getElem?_set_self hnl] at hm
      cases hm
      exact ⟨b, _, hb, upd_same, q3, xs, rfl, r⟩
    · rw [List.getElem?_set_ne hmn] at hm
      obtain ⟨c, u, p1, p2, p3, p4⟩ := a.hd.m m mo hm
      refine ⟨c, u, p1, ?_, p3, p4⟩
      rw [upd_ne]
      · exact p2
      · rintro rfl
        have h1 := (List.getElem?_eq_some_iff.mp p1)
        have h2 := (List.getElem?_eq_some_iff.mp hb)
        exact hmn ((List.getElem?_inj h2.1 a.hd.nd).mp (hb.trans p1.symm))
  · obtain ⟨kvs, p1, p2, p3, p4⟩ := a.hd.c s d hs
    refine ⟨kvs, ?_, p2, p3, p4⟩
    rw [upd_ne (by rintro rfl; exact p3 hbm)]; exact p1
  · obtain ⟨c, p1, o, p2, p3, p4, p5⟩ := a.sl.own i d he
    refine ⟨c, p1, o, ?_, p3, p4, p5⟩
    rw [upd_ne]
    · exact p2
    · rintro rfl; exact p4.1 hbm
theorem fin_some {α : Type} {o : Option D} {f : D → MM MP.Env} {J : Jt} {Q : L2.St → Hp → Prop} {M : Mem} (h : FinE X ER W J0 H0 J Q ((match o with
    | some x => f x
    | none => bad : MM MP.Env) M)) : ∃ x, o = some x ∧ FinE X ER W J0 H0 J Q (f x M) := by
  cases o with
  | none => exact h.elim
  | some x => exact ⟨x, rfl, h⟩
theorem g_name {x : Str} {p : Nat × Bool} {pos : Pos} (ok : XOk S Y ER k W X) (hx : tgName S x = some p) : PG X (.Name x pos) (gT ER W Y X J0 H0 (.name p.1)) := by
  obtain ⟨hi, hl, hf, _, _, _⟩ := loc_of ok hx
  refine PG.imp (pg_name ok.nodup hi hl hf) fun v σ H Q h => ?_
  obtain ⟨J, M, d, e, a, r, h⟩ := h
  exact h _ J H (a.put r) (.refl _)
theorem g_sub {x : Str} {i : Nat} {ke : Expr} {n : Nat} {ck : C} {p pos : Pos} (ok : XOk S Y ER k W X) (hx : slot S x = some i) (hk : cE n S ke = some ck) (hke : PE X ke (rdE Y ER W X ck)) : PG X (.Subscript (.Name x p) ke pos) (gT ER W Y X J0 H0 (.sub i ck)) := by
  refine PG.imp (pg_sub (slot_read ok hx) hke (PSet.or set_list (set_dict ok.u1)) (plain_sub hk)) fun v σ H Q h => ?_
  obtain ⟨J, M, d, e, a, r, h⟩ := h
  obtain ⟨x0, hx0, h⟩ := fin_some (α := Nat) (f := fun x => MM.bind (den Y ck e) fun y => match putO x y.1 d with
      | some x' => MM.pure (e.set i (some (x', true)))
      | none => bad) h
  have he := ownAt_some hx0
  obtain ⟨b, h1, h2⟩ := a.sl.own i _ he
  refine ⟨_, h1, ?_⟩
  refine ge_v a h fun y M1 J1 H1 u g1 a1 r1 h' => ?_
  obtain ⟨x', hx', h'⟩ := fin_some (α := Nat) (f := fun x' => MM.pure (e.set i (some (x', true)))) h'
  exact put_own a1 he h1 hx' r1 (r.ext g1.ext) fun H' a2 => h' σ J1 H' a2 (.refl _)
theorem g_msub {x : Str} {i : Nat} {ke : Expr} {n : Nat} {ck : C} {p pos : Pos} (ok : XOk S Y ER k W X) (hx : slot S x = some i) (hk : cE n S ke = some ck) (hke : PE X ke (rdE Y ER W X ck)) : PG X (.Subscript (.Name x p) ke pos) (gT ER W Y X J0 H0 (.msub (.var i) ck)) := by
  refine PG.imp (pg_sub (slot_read ok hx) hke set_list (plain_sub hk)) fun v σ H Q h => ?_
  obtain ⟨J, M, d, e, a, r, h⟩ := h
  have h0 : FinE X ER W J0 H0 J Q (MM.bind (den Y (.var i) e) (fun x => match x.1 with
    | .mtb n => MM.bind (den Y ck e) fun y => mput n y.1 d e
    | _ => bad) M) := h
  simp only [den] at h0
  cases he : e[i]? with
  | none => rw [he] at h0; exact h0.elim
  | some oe =>
    cases oe with
    | none => rw [he] at h0; exact h0.elim
    | some pe =>
      obtain ⟨dx, own⟩ := pe
      cases own with
      | true => rw [he] at h0; exact h0.elim
      | false =>
        rw [he] at h0
        obtain ⟨xv, hxv, rx⟩ := a.sl.sh i dx he
        refine ⟨xv, hxv, ?_⟩
        cases dx <;> first | exact h0.elim | skip
        rename_i n
        have h1 : FinE X ER W J0 H0 J Q (MM.bind (den Y ck e) (fun y => mput n y.1 d e) M) := h0
        refine ge_v a h1 fun y M1 J1 H1 u g1 a1 r1 h' => ?_
        have rx1 := rx.ext g1.ext
        unfold mput at h'
        cases hM : M1[n]? with
        | none => rw [hM] at h'; exact h'.elim
        | some mo =>
          cases mo with
          | lst l =>
            rw [hM] at h'
            dsimp only at h'
            obtain ⟨yd, yo⟩ := y
            cases yd <;> simp only [putO] at h' <;> first | exact h'.elim | skip
            rename_i j
            cases hj : MP.ixN l.length j with
            | none => rw [hj] at h'; exact h'.elim
            | some jj =>
              rw [hj] at h'
              cases rx1 with
              | mtb hb =>
                obtain ⟨b, o, q1, q2, q3, q4⟩ := a1.hd.m n _ hM
                rw [hb] at q1; cases q1
                obtain ⟨xs, rfl, rl⟩ := q4
                cases r1
                exact ⟨_, xs, j, jj, rfl, rfl, q2, by rw [ixN_eq, rl.len]; exact hj, h' σ J1 _ (put_mt a1 hb (rl.set (r.ext g1.ext) jj) hM) (.refl _)⟩
theorem slot_of_tg {x : Str} {p : Nat × Bool} (h : tgName S x = some p) : slot S x = some p.1 := by
  unfold tgName at h
  unfold slot
  split at h
  · rename_i e; rw [e]; obtain ⟨i, hi, rfl⟩ := Option.map_eq_some_iff.mp h; exact hi
  · rename_i e; rw [e]; obtain ⟨i, hi, rfl⟩ := Option.map_eq_some_iff.mp h; exact hi
  · cases h
/-- targets, as read -/
theorem cTgs_ns : ∀ {n : Nat} {es : List Expr} {ts : List Tg}, cTgs n S es = some ts → NoStarT es ∧ ts.length = es.length
  | 0, _, _, h => by simp [cTgs] at h
  | n + 1, [], ts, h => by simp [cTgs] at h; subst h; exact ⟨fun _ => rfl, rfl⟩
  | n + 1, e :: es, ts, h => by
    simp only [cTgs] at h
    obtain ⟨a, ha, h⟩ := Option.bind_eq_some_iff.mp h
    obtain ⟨r, hr, rfl⟩ := Option.map_eq_some_iff.mp h
    obtain ⟨t, l⟩ := cTgs_ns hr
    refine ⟨fun env => ?_, by simp [l]⟩
    have t := t env
    cases e <;> first | (show _ :: assignEach es env = _; rw [t]; rfl) | skip
    cases n <;> simp [cTg] at ha
theorem g_nil : PGs X [] (gTs ER W Y X J0 H0 []) := PGs.imp pgs_nil fun v σ H Q h => by
  obtain ⟨J, M, ds, e, a, r, h⟩ := h
  cases ds with
  | nil => cases r; exact ⟨rfl, h σ J H a (.refl _)⟩
  | cons _ _ => exact h.elim
theorem g_cons {e0 : Expr} {es : List Expr} {t : Tg} {ts : List Tg} (h1 : PG X e0 (gT ER W Y X J0 H0 t)) (h2 : PGs X es (gTs ER W Y X J0 H0 ts)) (hs : (assignEach (e0 :: es) X.env).map (·.2) = assign e0 X.env :: (assignEach es X.env).map (·.2)) : PGs X (e0 :: es) (gTs ER W Y X J0 H0 (t :: ts)) := PGs.imp (pgs_cons h1 h2 hs) fun v σ H Q h => by
  obtain ⟨J, M, ds, e, a, r, h⟩ := h
  cases ds with
  | nil => exact h.elim
  | cons d ds =>
    cases r with
    | @cons v0 _ vt _ rv rt =>
      refine ⟨v0, vt, rfl, J, M, d, e, a, rv, ?_⟩
      have h' : FinE X ER W J0 H0 J Q (MM.bind (asgG Y t d e) (fun e' => asgGs Y ts ds e') M) := h
      unfold MM.bind at h'
      cases q : asgG Y t d e M with
      | ok e1 M1 =>
        rw [q] at h'
        exact fun σ' J' H' a' x => ⟨J', M1, ds, e1, a', rt.ext x, FinE.ext h' x⟩
      | exc c p M1 => rw [q] at h'; exact h'
      | bad => rw [q] at h'; exact h'
theorem g_tup {es : List Expr} {ts : List Tg} {j : Nat} {pos : Pos} (ok : XOk S Y ER k W X) (h : PGs X es (gTs ER W Y X J0 H0 ts)) (ns : NoStarT es) (hl : ts.length = es.length) : PG X (.Tuple es j pos) (gT ER W Y X J0 H0 (.tup ts)) := by
  have hn : (assignEach es X.env).length = ts.length := by rw [ns]; simp [hl]
  have hst : (assignEach es X.env).findIdx? (·.1) = none := by rw [ns]; simp [List.findIdx?_eq_none_iff]
  refine ⟨fun pins s σ H v u Q I r h0 => ?_⟩
  obtain ⟨J, M, d, e, a, rv, q⟩ := h0
  cases d <;> first | exact q.elim | skip
  · rename_i ds
    have q' : FinE X ER W J0 H0 J Q ((if ts.length = ds.length then asgGs Y ts ds e else bad) M) := q
    by_cases hc : ts.length = ds.length
    · rw [if_pos hc] at q'
      cases rv with
      | tup j1 l1 => exact (pg_tup (n := ts.length) ok.calm h hn hst).run pins s σ H _ u Q I r ⟨_, _, rfl, a.hd.sqT j1, by rw [l1.len, hc], J, M, _, e, a, l1, q'⟩
    · rw [if_neg hc] at q'; exact q'.elim
  · rename_i ds
    have q' : FinE X ER W J0 H0 J Q ((if ts.length = ds.length then asgGs Y ts ds e else bad) M) := q
    by_cases hc : ts.length = ds.length
    · rw [if_pos hc] at q'
      cases rv with
      | lst j1 l1 => exact (pg_unl (n := ts.length) ok.calm h hn hst).run pins s σ H _ u Q I r ⟨_, _, rfl, a.hd.sqL j1, by rw [l1.len, hc], J, M, _, e, a, l1, q'⟩
    · rw [if_neg hc] at q'; exact q'.elim
mutual
theorem g_all : ∀ (n : Nat), n ≤ szLine → ∀ {e : Expr} {t : Tg}, cTg n S e = some t → XOk S Y ER k W X → PG X e (gT ER W Y X J0 H0 t)
  | 0, _, e, t, h, _ => by simp [cTg] at h
  | n + 1, hn, e, t, h, ok => by
    have snd := snd_all (Y := Y) (ER := ER) n (by omega)
    cases e <;> simp only [cTg, reduceCtorEq] at h
    · rename_i a i pos
      cases a <;> first | (cases h; done) | skip
      dsimp only at h
      · split at h
        · obtain ⟨p, hp, h⟩ := Option.bind_eq_some_iff.mp h
          obtain ⟨ck, hk, rfl⟩ := Option.map_eq_some_iff.mp h
          obtain ⟨_, _, _, _, _, _⟩ := loc_of ok hp
          exact g_sub ok (slot_of_tg hp) hk (snd.e S _ ck k W X hk ok)
        · obtain ⟨i0, hi, h⟩ := Option.bind_eq_some_iff.mp h
          obtain ⟨ck, hk, rfl⟩ := Option.map_eq_some_iff.mp h
          exact g_msub ok hi hk (snd.e S _ ck k W X hk ok)
    · obtain ⟨p, hp, h⟩ := Option.bind_eq_some_iff.mp h
      split at h
      · cases h
      · cases h
        exact g_name ok hp
    · rename_i es j pos
      obtain ⟨ts, hts, rfl⟩ := Option.map_eq_some_iff.mp h
      obtain ⟨q1, q2⟩ := cTgs_ns hts
      exact g_tup ok (gs_all n (by omega) hts ok) q1 q2
theorem gs_all : ∀ (n : Nat), n ≤ szLine → ∀ {es : List Expr} {ts : List Tg}, cTgs n S es = some ts → XOk S Y ER k W X → PGs X es (gTs ER W Y X J0 H0 ts)
  | 0, _, _, _, h, _ => by simp [cTgs] at h
  | n + 1, hn, [], ts, h, ok => by
    simp [cTgs] at h; subst h
    exact g_nil
  | n + 1, hn, e0 :: es, ts, h, ok => by
    have ns := (cTgs_ns h).1
    simp only [cTgs] at h
    obtain ⟨a, ha, h⟩ := Option.bind_eq_some_iff.mp h
    obtain ⟨r0, hr, rfl⟩ := Option.map_eq_some_iff.mp h
    exact g_cons (g_all n (by omega) ha ok) (gs_all n (by omega) hr ok) (by rw [ns, (cTgs_ns hr).1]; rfl)
end
/-- target = value -/
theorem s_asg {tg v : Expr} {t : Tg} {c : C} {pos : Pos} (hv : PE X v (rdE Y ER W X c)) (hg : PG X tg (gT ER W Y X J0 H0 t)) (hs : swapsWithSole [tg] v pos.line X.env = pure false) (hw : swappedStores [tg] v X.env = pure none)
    (h1 : (assignEach [tg] X.env).map (·.2) = [assign tg X.env]) : PS X (.Assign [tg] v pos) (rdS ER W X J0 H0 (denS Y (.asg t c))) := by
  refine PS.imp (ps_asg hv hg hs hw h1) fun En σ H h => ?_
  obtain ⟨J, M, e, a, h⟩ := h
  refine st_v a (f := fun x => MM.bind (asgG Y t x.1 e) fun e' => MM.pure (.nx e')) h fun y M1 J1 H1 v g a1 r h1 => ?_
  refine ⟨J1, M1, y.1, e, a1, r, ?_⟩
  unfold MM.bind at h1
  cases q : asgG Y t y.1 e M1 with
  | ok e1 M2 => rw [q] at h1; exact fun σ' J' H' a' x => h1 σ' J' H' a' x
  | exc c p M2 => rw [q] at h1; exact h1
  | bad => rw [q] at h1; exact h1
end
end MP
end

section
set_option linter.all false
set_option Elab.async false
set_option maxRecDepth 100000
set_option maxHeartbeats 8000000
namespace MP
open PySem PySem.Spec PyProof.Rows L2
section
variable {S : Cs} {Y : Ctx} {ER : ExR} {k : Nat} {W : WX} {X : Cx} {J0 : Jt} {H0 : Hp}
theorem get_list : PGet X (rIxL X.K) := by
  intro pins s σ H x y v u Q I rx ry h
  obtain ⟨p, xs, i, z, rfl, rfl, hq, he, q⟩ := h
  cases rx
  obtain ⟨t, rfl⟩ := ry
  obtain ⟨its, r, pl, hz⟩ := I.list hq
  obtain ⟨j, h1, h2, h3, h4, h5⟩ := atI_get he
  obtain ⟨w, ew, rw'⟩ := r.get h2
  have hl := r.length
  have hn := line63
  have fin : EP X pins σ Q w s := ⟨z, H, I, rw', q⟩
  by_cases h0 : 0 ≤ i
  · have hj : i.toNat = j := by
      rw [seqIndex_of h0 h5] at h1
      exact Option.some.inj h1
    refine wpAny_mono (wpAny_getItem_list (Q := fun r s' => r = w ∧ EP X pins σ Q r s') pl.isList (by omega) (by omega) (by rw [hj]; simpa using ew) ⟨rfl, fin⟩) (fun _ _ h => h.2) fun _ _ e => e
  · have hj : (i + (its.toArray.size : Int)).toNat = j := by
      rw [seqIndex_neg (by omega) h4] at h1
      rw [List.size_toArray, ← hl]
      exact Option.some.inj h1
    exact wpAny_mono (wpAny_getItem_list_neg (Q := fun r s' => r = w ∧ EP X pins σ Q r s') pl.isList (by omega) (by rw [List.size_toArray] <;> omega) (by omega) (by rw [hj]; simpa using ew) ⟨rfl, fin⟩) (fun _ _ h => h.2) fun _ _ e => e
theorem s_augSub {x : Str} {i n : Nat} {ke a : Expr} {ck c : C} {p tp pos : Pos} (ok : XOk S Y ER k W X) (hx : slot S x = some i) (hk : cE n S ke = some ck) (hke : PE X ke (rdE Y ER W X ck)) (ha : PE X a (rdE Y ER W X c)) :
    PS X (.AugAssign (.Subscript (.Name x p) ke tp) .Add a pos) (rdS ER W X J0 H0 (denS Y (.augSub i ck .add c))) := by
  refine PS.imp (ps_augS (slot_read ok hx) hke get_list ha ip_add (PSet.or set_list (set_dict ok.u1)) (plain_aug hk)) fun En σ H h => ?_
  obtain ⟨J, M, e, a0, h⟩ := h
  have h : FinS X ER W J0 H0 J En ((match ownAt e i with
    | some (.lst l) => MM.bind (den Y ck e) fun y => match y.1, idxO (.lst l) y.1 with
      | .int j, some (.int w) => MM.bind (den Y c e) fun z => match z.1 with
        | .int v => match putO (.lst l) (.int j) (.int (w + v)) with
          | some x' => if BOp.add == .add then MM.pure (.nx (e.set i (some (x', true)))) else bad
          | none => bad
        | _ => bad
      | _, _ => bad
    | _ => bad : MM Fl) M) := h
  cases hx0 : ownAt e i with
  | none => rw [hx0] at h; exact h.elim
  | some d0 =>
  rw [hx0] at h
  cases d0 <;> first | exact h.elim | skip
  rename_i l
  dsimp only at h
  have he := ownAt_some hx0
  obtain ⟨b, h1, h2⟩ := a0.sl.own i _ he
  refine ⟨_, h1, ?_⟩
  refine st_v a0 h fun y M1 J1 H1 u g1 a1 r1 h' => ?_
  obtain ⟨d, o⟩ := y
  cases d <;> first | exact h'.elim | skip
  rename_i j
  dsimp only at h'
  cases hw : idxO (.lst l) (.int j) with
  | none => rw [hw] at h'; exact h'.elim
  | some dw =>
  rw [hw] at h'
  cases dw <;> first | exact h'.elim | skip
  rename_i w
  dsimp only at h'
  cases r1
  obtain ⟨b', xs, p1, p2, p3⟩ := a1.lst he
  rw [h1] at p1; cases p1
  obtain ⟨jj, hj, hjl⟩ := Option.bind_eq_some_iff.mp (show ((MP.ixN l.length j).bind fun k => l[k]?) = some (.int w) from hw)
  obtain ⟨vv, hv1, hv2⟩ := p3.get hjl
  cases hv2
  refine ⟨b, xs, j, .int w, rfl, rfl, .inl (.inl p2), ?_, ?_⟩
  · unfold atI
    rw [ixN_eq, p3.len, hj]
    exact hv1
  refine st_v a1 h' fun z M2 J2 H2 u2 g2 a2 r2 h2' => ?_
  obtain ⟨d2, o2⟩ := z
  cases d2 <;> first | exact h2'.elim | skip
  rename_i v
  cases r2
  dsimp only at h2'
  refine ⟨w, v, rfl, rfl, ?_⟩
  cases hp : putO (.lst l) (.int j) (.int (w + v)) with
  | none => rw [hp] at h2'; exact h2'.elim
  | some x' =>
  rw [hp] at h2'
  dsimp only at h2'
  exact put_own a2 he h1 hp (.int j) (.int (w + v)) fun H' a3 => h2' _ J2 H' a3 (.refl _)
end
end MP
end

section
set_option linter.all false
set_option Elab.async false
set_option maxRecDepth 100000
set_option maxHeartbeats 8000000
namespace MP
open PySem PySem.Spec PyProof.Rows L2
section
variable {S : Cs} {Y : Ctx} {ER : ExR} {k : Nat} {W : WX} {X : Cx} {J0 : Jt} {H0 : Hp}
/-! ### several values at once -/
def RepOs (K : PySem.W.Frag) (w : World) (J' : Jt) (H H' : Hp) : List V → List (D × Bool) → Prop
  | [], [] => True
  | v :: vs, x :: xs => RepO K w J' H H' v x.1 x.2 ∧ (x.2 = true → ∀ (n : Nat) (u : V) (y : D × Bool), vs[n]? = some u → xs[n]? = some y → y.2 = true → u ≠ v) ∧ RepOs K w J' H H' vs xs
  | _, _ => False
theorem RepOs.len {K : PySem.W.Frag} {w : World} {J' : Jt} {H H' : Hp} : ∀ {vs : List V} {xs : List (D × Bool)}, RepOs K w J' H H' vs xs → vs.length = xs.length
  | [], [], _ => rfl
  | v :: vs, x :: xs, h => by simp [RepOs.len h.2.2]
  | [], _ :: _, h => h.elim
  | _ :: _, [], h => h.elim
theorem RepOs.back {J J1 J' : Jt} {H H1 H' : Hp} (g : Go J H J1 H1) : ∀ {vs : List V} {xs : List (D × Bool)}, RepOs X.K X.w J' H1 H' vs xs → RepOs X.K X.w J' H H' vs xs
  | [], [], _ => trivial
  | v :: vs, x :: xs, h => ⟨RepO.back h.1 g, h.2.1, RepOs.back g h.2.2⟩
  | [], _ :: _, h => h.elim
  | _ :: _, [], h => h.elim
theorem RepOs.fresh {J' : Jt} {H H' : Hp} : ∀ {vs : List V} {xs : List (D × Bool)} {n : Nat} {u : V} {y : D × Bool}, RepOs X.K X.w J' H H' vs xs → vs[n]? = some u → xs[n]? = some y → y.2 = true → ∃ b, u = .ref b ∧ H b = none
  | [], [], n, u, y, _, h, _, _ => by simp at h
  | v :: vs, x :: xs, 0, u, y, h, h1, h2, h3 => by
    simp at h1 h2
    subst h1 h2
    have := h.1
    rw [h3] at this
    obtain ⟨a, e, hn, _⟩ := this
    exact ⟨a, e, hn⟩
  | v :: vs, x :: xs, n + 1, u, y, h, h1, h2, h3 => RepOs.fresh h.2.2 (by simpa using h1) (by simpa using h2) h3
  | [], _ :: _, _, _, _, h, _, _, _ => h.elim
  | _ :: _, [], _, _, _, h, _, _, _ => h.elim
def rdO (Y : Ctx) (ER : ExR) (W : WX) (X : Cx) (cs : List C) : TA := fun σ H Q => ∃ J M e, Hold X.K X.w J M H ∧ Slots X.K X.w J H σ e ∧
  ResG X ER W σ J H (denO Y cs e M) fun xs _ J' H' => ∀ vs, RepOs X.K X.w J' H H' vs xs → Q vs H'
theorem o_nil : PA X [] (rdO Y ER W X []) := PA.imp pa_nil fun σ H Q h => by
  obtain ⟨J, M, e, hd, sl, h⟩ := h
  exact h J H (.refl _ _) hd [] trivial
theorem o_cons {a : Expr} {es : List Expr} {c : C} {cs : List C} (ha : PE X a (rdE Y ER W X c)) (he : PA X es (rdO Y ER W X cs)) (hs : starEach (a :: es) X.env = (false, eval a X.env) :: starEach es X.env) : PA X (a :: es) (rdO Y ER W X (c :: cs)) := by
  refine PA.imp (pa_cons ha he hs) fun σ H Q h => ?_
  obtain ⟨J, M, e, hd, sl, h⟩ := h
  rw [show denO Y (c :: cs) e = MM.bind (den Y c e) fun x => MM.bind (denO Y cs e) fun xs => MM.pure (x :: xs) from rfl] at h
  refine ⟨J, M, e, hd, sl, (ResG.bind h).imp fun x M1 J1 H1 g1 hd1 h1 v r => ?_⟩
  refine ⟨J1, M1, e, hd1, sl.go g1, (ResG.bind h1).imp fun xs M2 J2 H2 g2 hd2 h2 vs rs => ?_⟩
  refine h2 J2 H2 (.refl _ _) hd2 (v :: vs) ⟨?_, fun ho n u y q1 q2 q3 => ?_, rs.back g1⟩
  · obtain ⟨d, o⟩ := x
    cases o with
    | false => exact Rep.ext g2.ext r
    | true => obtain ⟨b, e1, e2, e3⟩ := r; exact ⟨b, e1, e2, e3.go g2⟩
  · obtain ⟨b, rfl, hb⟩ := RepOs.fresh rs q1 q2 q3
    obtain ⟨d, o⟩ := x
    cases ho
    obtain ⟨b', e1, e2, o', e3, _⟩ := r
    subst e1
    intro z
    cases z
    rw [hb] at e3; cases e3
theorem snd_O {n : Nat} : ∀ {es : List Expr} {cs : List C}, n ≤ szLine → cEs n S es = some cs → XOk S Y ER k W X → PA X es (rdO Y ER W X cs) := by
  induction n with
  | zero => intro es cs _ h; simp [cEs] at h
  | succ n ih =>
    intro es cs hn h ok
    cases es with
    | nil => simp [cEs] at h; subst h; exact o_nil
    | cons a r =>
      simp only [cEs] at h
      obtain ⟨c, hc, h⟩ := Option.bind_eq_some_iff.mp h
      obtain ⟨cs', hcs, rfl⟩ := Option.map_eq_some_iff.mp h
      exact o_cons ((snd_all n (by omega)).e S a c k W X hc ok) (ih (by omega) hcs ok) (nostar hc _ _)
def RepF (X : Cx) (H0 : Hp) (J : Jt) (H : Hp) (v : V) (d : D) (o : Bool) : Prop := match o with
    | false => Rep X.K X.w J v d
    | true => ∃ b, v = .ref b ∧ H0 b = none ∧ Own X.K X.w J H b d
/-- one value is named; what becomes shared -/
theorem At.one {J : Jt} {M : Mem} {H : Hp} {σ : L2.St} {e : MP.Env} (a : At X J0 H0 J M H σ e) {i : Nat} {keep : Bool} {v : V} {d : D} {o : Bool} (r : RepF X H0 J H v d o) (ap : o = true → ∀ (j : Nat) (d' : D), e[j]? = some (some (d', true)) → σ[j]? ≠ some (some v)) :
    ∃ J', At X J0 H0 J' M H (σ.set i (some v)) (e.set i (some (d, keep && o))) ∧ Ext J J' ∧ (J'.ρ = J.ρ ∧ J'.C = J.C) ∧ ∀ b, J'.I b = J.I b ∨ (v = .ref b ∧ o = true) := by
  cases o with
  | false =>
    rw [Bool.and_false]
    exact ⟨J, a.put r, .refl _, ⟨rfl, rfl⟩, fun b => .inl rfl⟩
  | true =>
    obtain ⟨b, rfl, hn, own⟩ := r
    cases keep with
    | true => exact ⟨J, a.putOwn own hn fun j d' _ h => ap rfl j d' h, .refl _, ⟨rfl, rfl⟩, fun b => .inl rfl⟩
    | false =>
      obtain ⟨o, ho, hI, hr, orr⟩ := id own
      have ex : Ext J (J.add b o) := Jt.add_ext hI
      have a2 : At X J0 H0 (J.add b o) M H σ e := by
        refine ⟨a.go.add hn hI, a.hd.add ho hI hr, ⟨a.sl.len, fun j d' hj => ?_, fun j d' hj => ?_, a.sl.apart⟩, a.new⟩
        · obtain ⟨u, q1, q2⟩ := a.sl.sh j d' hj
          exact ⟨u, q1, q2.ext ex⟩
        · obtain ⟨c, q1, o', q2, q3, q4, q5⟩ := a.sl.own j d' hj
          refine ⟨c, q1, o', q2, ?_, q4, q5.ext ex⟩
          show (if c = b then some o else J.I c) = none
          rw [if_neg, q3]
          rintro rfl
          exact ap rfl j d' hj q1
      refine ⟨J.add b o, a2.put (orr.rep hI), ex, ⟨rfl, rfl⟩, fun c => ?_⟩
      by_cases hc : c = b
      · exact .inr ⟨by rw [hc], rfl⟩
      · exact .inl (if_neg hc)
def setV : List Nat → List V → L2.St → L2.St
  | i :: r, v :: vs, σ => (setV r vs σ).set i (some v)
  | _, _, σ => σ
theorem At.all {J : Jt} {M : Mem} {Hs H : Hp} {σ : L2.St} {e : MP.Env} (a : At X J0 H0 J M H σ e) (hs : ∀ b, Hs b = none → H0 b = none) (hold : ∀ (j : Nat) (d' : D) (b : Addr), e[j]? = some (some (d', true)) → σ[j]? = some (some (.ref b)) → Hs b ≠ none) :
    ∀ {l : List (Nat × Bool)} {vs : List V} {xs : List (D × Bool)}, l.length = xs.length → RepOs X.K X.w J Hs H vs xs →
    ∃ J', At X J0 H0 J' M H (setV (l.map (·.1)) vs σ) (setAll l xs e) ∧ Ext J J' ∧ (J'.ρ = J.ρ ∧ J'.C = J.C) ∧ (∀ b, J'.I b = J.I b ∨ ∃ (n : Nat) (y : D × Bool), vs[n]? = some (V.ref b) ∧ xs[n]? = some y ∧ y.2 = true) ∧
      (∀ (j : Nat) (d' : D) (b : Addr), (setAll l xs e)[j]? = some (some (d', true)) → (setV (l.map (·.1)) vs σ)[j]? = some (some (V.ref b)) → Hs b ≠ none ∨ ∃ (n : Nat) (y : D × Bool), vs[n]? = some (V.ref b) ∧ xs[n]? = some y ∧ y.2 = true)
  | [], vs, [], _, r => by
    cases vs with
    | nil => exact ⟨J, a, .refl _, ⟨rfl, rfl⟩, fun b => .inl rfl, fun j d' b h1 h2 => .inl (hold j d' b h1 h2)⟩
    | cons _ _ => exact r.elim
  | [], _, _ :: _, h, _ => by simp at h
  | _ :: _, _, [], h, _ => by simp at h
  | (i, keep) :: l, vs, (d, o) :: xs, h, r => by
    cases vs with
    | nil => exact r.elim
    | cons v vs =>
      obtain ⟨r1, r2, r3⟩ := r
      obtain ⟨J1, a1, x1, p1, c1, s1⟩ := At.all a hs hold (l := l) (vs := vs) (xs := xs) (by simpa using h) r3
      have hr : RepF X H0 J1 H v d o := by
        cases o with
        | false => exact Rep.ext x1 r1
        | true =>
          obtain ⟨b, e1, hn, o', q1, q2, q3, q4⟩ := r1
          refine ⟨b, e1, hs b hn, o', q1, ?_, ⟨by rw [p1.1]; exact q3.1, by rw [p1.2]; exact q3.2⟩, q4.ext x1⟩
          rcases c1 b with c | ⟨n, y, z1, z2, z3⟩
          · rw [c]; exact q2
          · exact absurd e1.symm (r2 rfl n _ y z1 z2 z3)
      have ap : o = true → ∀ (j : Nat) (d' : D), (setAll l xs e)[j]? = some (some (d', true)) → (setV (l.map (·.1)) vs σ)[j]? ≠ some (some v) := by
        intro ho j d' q1 q2
        subst ho
        obtain ⟨b, rfl, hn, _⟩ := r1
        rcases s1 j d' b q1 q2 with z | ⟨n, y, z1, z2, z3⟩
        · exact z hn
        · exact r2 rfl n _ y z1 z2 z3 rfl
      obtain ⟨J2, a2, x2, p2, c2⟩ := a1.one (i := i) (keep := keep) hr ap
      refine ⟨J2, a2, x1.trans x2, ⟨p2.1.trans p1.1, p2.2.trans p1.2⟩, fun b => ?_, fun j d' b q1 q2 => ?_⟩
      · rcases c2 b with c | ⟨c, c'⟩
        · rcases c1 b with z | ⟨n, y, z1, z2, z3⟩
          · exact .inl (c.trans z)
          · exact .inr ⟨n + 1, y, by simpa using z1, by simpa using z2, z3⟩
        · exact .inr ⟨0, (d, o), by simp [c], rfl, c'⟩
      · have q1 : ((setAll l xs e).set i (some (d, keep && o)))[j]? = some (some (d', true)) := q1
        have q2 : ((setV (l.map (·.1)) vs σ).set i (some v))[j]? = some (some (V.ref b)) := q2
        by_cases hij : i = j
        · subst hij
          have e1 := (set_self q1).1
          have e2 := (set_self q2).1
          cases e2
          have ho : o = true := by
            have : (d', true) = (d, keep && o) := Option.some.inj e1
            have := (Prod.mk.inj this).2
            cases o
            · simp at this
            · rfl
          exact .inr ⟨0, (d, o), rfl, rfl, ho⟩
        · rw [List.getElem?_set_ne hij] at q1 q2
          rcases s1 j d' b q1 q2 with z | ⟨n, y, z1, z2, z3⟩
          · exact .inl z
          · exact .inr ⟨n + 1, y, by simpa using z1, by simpa using z2, z3⟩
/-- the values are there, named at once -/
theorem par_read {l : List (Nat × Bool)} {cs : List C} {En : Ends} {σ : L2.St} {H : Hp} (h : rdS ER W X J0 H0 (denS Y (.par l cs)) En σ H) :
    rdO Y ER W X cs σ H fun vs H1 => vs.length = l.length ∧ En.nx (setV (l.map (·.1)) vs σ) H1 ∧ ∀ p o, H1 p = none → En.nx (setV (l.map (·.1)) vs σ) (L2.upd H1 p o) := by
  obtain ⟨J, M, e, a, h⟩ := h
  refine ⟨J, M, e, a.hd, a.sl, ?_⟩
  refine st_res a (f := fun xs => if xs.length = l.length then MM.pure (.nx (setAll l xs e)) else bad) h fun xs M1 J1 H1 g1 a1 h1 vs rs => ?_
  obtain ⟨hl, h1⟩ := fin_ifP h1
  obtain ⟨J2, a2, x2, _, _, _⟩ := At.all (Hs := H) a1 (fun b hb => none_of_not fun z => by
    have := a.go.keepR b z
    rw [hb] at this; cases this) (fun j d' b q1 q2 z => by
      obtain ⟨c, p1, o, p2, _⟩ := a.sl.own j d' q1
      rw [q2] at p1; cases p1
      rw [z] at p2; cases p2) hl.symm rs
  exact ⟨by rw [rs.len, hl], h1 _ J2 H1 a2 (g1.ext.trans x2), fun p o hp => h1 _ J2 _ (a2.on (go_new J2 o hp) (a2.hd.new hp)) (g1.ext.trans x2)⟩
/-! ### the stores of a tuple's items -/
def isStar : Expr → Bool
  | .Starred _ _ => true
  | _ => false
def swNames (env : PySem.Env) (ts : List Expr) : List Str := ts.filterMap fun
    | .Name id pos => if env.kindOf id == some .local && pos.line == (ts.head?.map (·.pos.line)).getD 0 then some id else none
    | _ => none
theorem sw_eq {ts vs : List Expr} {kt k2 : Nat} {pt p2 : Pos} {env : PySem.Env} : swappedStores [.Tuple ts kt pt] (.Tuple vs k2 p2) env =
    (if (!(ts.length == 2 || ts.length == 3) || vs.length != ts.length || env.blockKind != .function) = true then pure none
    else if vs.any isStar = true then pure none
    else if ((swNames env ts).length != ts.length || (swNames env ts).eraseDups.length != (swNames env ts).length) = true then pure none
    else if vs.all (foldedForSure 8) = true then pure none
    else if vs.all (constantsAlone 8) = true then (do let _ ← (unsupported "assign.tuple-of-constant-expressions:order-of-the-stores" : Sem Unit); pure (some (swNames env ts)))
    else pure (some (swNames env ts))) := rfl
section
variable {ts vs : List Expr} {kt k2 : Nat} {pt p2 : Pos} {env : PySem.Env}
theorem sw_some (hb : env.blockKind = .function) (hl : (ts.length == 2 || ts.length == 3) = true) (hv : (vs.length == ts.length) = true) (hst : vs.any isStar = false) (hf : vs.all (foldedForSure 8) = false) (hc : vs.all (constantsAlone 8) = false)
    (hn : (swNames env ts).length = ts.length) (hd : (swNames env ts).eraseDups.length = (swNames env ts).length) : swappedStores [.Tuple ts kt pt] (.Tuple vs k2 p2) env = pure (some (swNames env ts)) := by
  rw [sw_eq, if_neg, if_neg, if_neg, if_neg, if_neg]
  · rw [hc]; exact Bool.false_ne_true
  · rw [hf]; exact Bool.false_ne_true
  · rw [hd, hn]; simp
  · rw [hst]; exact Bool.false_ne_true
  · rw [hb, hl]; simp only [bne, hv]; decide
theorem sw_none (hn : (swNames env ts).length ≠ ts.length) : swappedStores [.Tuple ts kt pt] (.Tuple vs k2 p2) env = pure none := by
  rw [sw_eq]
  split
  · rfl
  split
  · rfl
  rw [if_pos]
  simp [hn]
theorem sw_fold (hf : vs.all (foldedForSure 8) = true) : swappedStores [.Tuple ts kt pt] (.Tuple vs k2 p2) env = pure none := by
  rw [sw_eq]
  split
  · rfl
  split
  · rfl
  split
  · rfl
  first | rfl | rw [if_pos hf]
end
theorem cEs_star {n : Nat} {vs : List Expr} {cs : List C} (h : cEs n S vs = some cs) : vs.any isStar = false := by
  induction n generalizing vs cs with
  | zero => simp [cEs] at h
  | succ n ih =>
    cases vs with
    | nil => rfl
    | cons a r =>
      simp only [cEs] at h
      obtain ⟨c, hc, h⟩ := Option.bind_eq_some_iff.mp h
      obtain ⟨cs', hcs, rfl⟩ := Option.map_eq_some_iff.mp h
      rw [List.any_cons, ih hcs, Bool.or_false]
      cases a <;> first | rfl | skip
      cases n <;> simp [cE] at hc
/-- the names of a tuple of plain names, with their slots -/
def tgNames (S : Cs) (ts : List Expr) : Option (List (Nat × Bool)) := mapO (fun t => match t with
          | .Name x _ => tgName S x
          | _ => none) ts
def gN (is : List Nat) : TGs := fun us σ H Q => us.length = is.length ∧ Q (setV is us σ) H
theorem setV_comm {i : Nat} {v : V} : ∀ {is : List Nat} {us : List V} {σ : L2.St}, i ∉ is → setV is us (σ.set i (some v)) = (setV is us σ).set i (some v)
  | [], us, σ, _ => by cases us <;> rfl
  | j :: is, [], σ, _ => rfl
  | j :: is, u :: us, σ, h => by
    simp only [List.mem_cons, not_or] at h
    show (setV is us (σ.set i (some v))).set j (some u) = ((setV is us σ).set j (some u)).set i (some v)
    rw [setV_comm h.2, List.set_comm _ _ h.1]
theorem g_names (ok : XOk S Y ER k W X) : ∀ {ts : List Expr} {l : List (Nat × Bool)}, tgNames S ts = some l → (l.map (·.1)).Nodup → PGs X ts (gN (l.map (·.1))) ∧ NoStarT ts
  | [], l, h, _ => by
    simp [tgNames, mapO] at h; subst h
    refine ⟨PGs.imp pgs_nil fun us σ H Q h => ?_, fun _ => rfl⟩
    obtain ⟨h1, h2⟩ := h
    have : us = [] := List.length_eq_zero_iff.mp h1
    subst this
    exact ⟨rfl, h2⟩
  | t :: ts, l, h, nd => by
    unfold tgNames mapO at h
    cases t <;> simp only [reduceCtorEq] at h
    rename_i x px
    cases h1 : tgName S x with
    | none => rw [h1] at h; cases h
    | some p =>
      rw [h1] at h
      generalize h2 : mapO _ ts = o at h
      cases o with
      | none => cases h
      | some r =>
        cases h
        have h2 : tgNames S ts = some r := h2
        simp only [List.map_cons, List.nodup_cons] at nd
        obtain ⟨g1, g2⟩ := g_names ok h2 nd.2
        obtain ⟨hi, hl, hf, _, _, _⟩ := loc_of ok h1
        have ns : NoStarT (.Name x px :: ts) := fun env => by show (false, _) :: assignEach ts env = _; rw [g2]; rfl
        refine ⟨PGs.imp (pgs_cons (pg_name ok.nodup hi hl hf) g1 (by rw [ns, g2]; rfl)) fun us σ H Q h => ?_, ns⟩
        obtain ⟨e1, e2⟩ := h
        cases us with
        | nil => simp at e1
        | cons u us =>
          refine ⟨u, us, rfl, ?_⟩
          show gN (r.map (·.1)) us (σ.set p.1 (some u)) H Q
          refine ⟨by simpa using e1, ?_⟩
          rw [setV_comm nd.1]
          exact e2
/-- several names at once, through the tuple -/
theorem s_parU {ts vs : List Expr} {l : List (Nat × Bool)} {cs : List C} {n kt k2 : Nat} {pt p2 pos : Pos} (hn : n ≤ szLine) (ok : XOk S Y ER k W X) (ht : tgNames S ts = some l) (nd : (l.map (·.1)).Nodup) (hv : cEs n S vs = some cs) (hl : vs.length = ts.length)
    (hw : swappedStores [.Tuple ts kt pt] (.Tuple vs k2 p2) X.env = pure none) : PS X (.Assign [.Tuple ts kt pt] (.Tuple vs k2 p2) pos) (rdS ER W X J0 H0 (denS Y (.par l cs))) := by
  obtain ⟨g1, g2⟩ := g_names ok ht nd
  have hlen : l.length = ts.length := (mapO_some ht).1.symm
  have hn' : (assignEach ts X.env).length = l.length := by rw [g2]; simp [hlen]
  have hst : (assignEach ts X.env).findIdx? (·.1) = none := by rw [g2]; simp [List.findIdx?_eq_none_iff]
  refine PS.imp (ps_asg (pe_tup (snd_O hn hv ok)) (pg_tup (n := l.length) ok.calm g1 hn' hst) rfl hw rfl) fun En σ H h => ?_
  obtain ⟨J, M, e, hd, sl, q⟩ := par_read h
  refine ⟨J, M, e, hd, sl, q.imp fun xs M1 J1 H1 g1 hd1 q1 vs1 rs => ?_⟩
  obtain ⟨q2, _, q3⟩ := q1 vs1 rs
  have hcl := cEs_len hv
  refine ⟨by rw [q2, hlen, ← hl, ← szLine_eq]; omega, fun p hp => ⟨p, vs1, rfl, .inl (.inl upd_same), q2, ?_⟩⟩
  exact ⟨by simp [q2], q3 p _ hp⟩
theorem s_par2 {x y : Str} {a b : Expr} {l : List (Nat × Bool)} {cs : List C} {n kt k2 : Nat} {px py pt p2 pos : Pos} (hn : n ≤ szLine) (ok : XOk S Y ER k W X) (ht : tgNames S [.Name x px, .Name y py] = some l) (nd : (l.map (·.1)).Nodup) (hv : cEs n S [a, b] = some cs)
    (hx : X.env.scope.names.lookup x = some .local) (hy : X.env.scope.names.lookup y = some .local) (hw : swappedStores [.Tuple [.Name x px, .Name y py] kt pt] (.Tuple [a, b] k2 p2) X.env = pure (some [x, y])) :
    PS X (.Assign [.Tuple [.Name x px, .Name y py] kt pt] (.Tuple [a, b] k2 p2) pos) (rdS ER W X J0 H0 (denS Y (.par l cs))) := by
  cases h1 : tgName S x with
  | none => simp [tgNames, mapO, h1] at ht
  | some p =>
    cases h2 : tgName S y with
    | none => simp [tgNames, mapO, h1, h2] at ht
    | some q =>
      simp [tgNames, mapO, h1, h2] at ht
      subst ht
      have hij : p.1 ≠ q.1 := by simpa using nd
      obtain ⟨i1, _⟩ := loc_of ok h1
      obtain ⟨i2, _⟩ := loc_of ok h2
      refine PS.imp (ps_par ok.calm ok.nodup i1 i2 hij hx hy (snd_O hn hv ok) hw) fun En σ H h => ?_
      obtain ⟨J, M, e, hd, sl, qq⟩ := par_read h
      refine ⟨J, M, e, hd, sl, qq.imp fun xs M1 J1 H1 g1 hd1 q1 vs1 rs => ?_⟩
      obtain ⟨q2, q3, _⟩ := q1 vs1 rs
      match vs1, q2, q3 with
      | [v, w], _, q3 => exact ⟨v, w, rfl, by rw [List.set_comm _ _ hij]; exact q3⟩
theorem s_par3 {x y z : Str} {a b c : Expr} {l : List (Nat × Bool)} {cs : List C} {n kt k2 : Nat} {px py pz pt p2 pos : Pos} (hn : n ≤ szLine) (ok : XOk S Y ER k W X) (ht : tgNames S [.Name x px, .Name y py, .Name z pz] = some l) (nd : (l.map (·.1)).Nodup) (hv : cEs n S [a, b, c] = some cs)
    (hx : X.env.scope.names.lookup x = some .local) (hy : X.env.scope.names.lookup y = some .local) (hz : X.env.scope.names.lookup z = some .local) (hw : swappedStores [.Tuple [.Name x px, .Name y py, .Name z pz] kt pt] (.Tuple [a, b, c] k2 p2) X.env = pure (some [x, y, z])) :
    PS X (.Assign [.Tuple [.Name x px, .Name y py, .Name z pz] kt pt] (.Tuple [a, b, c] k2 p2) pos) (rdS ER W X J0 H0 (denS Y (.par l cs))) := by
  cases h1 : tgName S x with
  | none => simp [tgNames, mapO, h1] at ht
  | some p =>
    cases h2 : tgName S y with
    | none => simp [tgNames, mapO, h1, h2] at ht
    | some q =>
      cases h3 : tgName S z with
      | none => simp [tgNames, mapO, h1, h2, h3] at ht
      | some r =>
        simp [tgNames, mapO, h1, h2, h3] at ht
        subst ht
        have hij : p.1 ≠ q.1 ∧ p.1 ≠ r.1 ∧ q.1 ≠ r.1 := by
          simp at nd
          exact ⟨nd.1.1, nd.1.2, nd.2⟩
        obtain ⟨i1, _⟩ := loc_of ok h1
        obtain ⟨i2, _⟩ := loc_of ok h2
        obtain ⟨i3, _⟩ := loc_of ok h3
        refine PS.imp (ps_par3 ok.calm ok.nodup i1 i2 i3 hij.1 hij.2.1 hij.2.2 hx hy hz (snd_O hn hv ok) hw) fun En σ H h => ?_
        obtain ⟨J, M, e, hd, sl, qq⟩ := par_read h
        refine ⟨J, M, e, hd, sl, qq.imp fun xs M1 J1 H1 g1 hd1 q1 vs1 rs => ?_⟩
        obtain ⟨q2, q3, _⟩ := q1 vs1 rs
        match vs1, q2, q3 with
        | [u, v, w], _, q3 =>
          refine ⟨u, v, w, rfl, ?_⟩
          have : ((σ.set p.1 (some u)).set q.1 (some v)).set r.1 (some w) = ((σ.set r.1 (some w)).set q.1 (some v)).set p.1 (some u) := by
            rw [List.set_comm _ _ hij.1, List.set_comm _ _ hij.2.1, List.set_comm _ _ hij.2.2]
          rw [this]
          exact q3
end
end MP
end

section
set_option linter.all false
set_option Elab.async false
set_option maxRecDepth 100000
set_option maxHeartbeats 8000000
namespace MP
open PySem PySem.Spec PyProof.Rows L2
section
variable {S : Cs} {Y : Ctx} {ER : ExR} {k : Nat} {W : WX} {X : Cx} {J0 : Jt} {H0 : Hp}
theorem slot_tg {x : Str} {p : Nat × Bool} (h : tgName S x = some p) : slot S x = some p.1 := slot_of_tg h
theorem swx {e : Expr} {n : Nat} {c : C} (h : cE n S e = some c) (hn : ∀ el gs sc p, e ≠ .ListComp el gs sc p) (l : Nat) (env : PySem.Env) : swapsWith e none l env = pure false := by
  cases e <;> first | rfl | skip
  · exact absurd rfl (hn _ _ _ _)
  all_goals (cases n <;> simp [cE] at h)
theorem sws {e : Expr} {n : Nat} {c : C} {t : Expr} (h : cE n S e = some c) (ht : ∀ x p, t ≠ .Name x p) (l : Nat) (env : PySem.Env) : swapsWithSole [t] e l env = pure false := by
  show swapsWith e (some t) l env = pure false
  cases e <;> first | rfl | skip
  · cases t <;> first | rfl | exact absurd rfl (ht _ _)
  all_goals (cases n <;> simp [cE] at h)
theorem st_expr {n : Nat} (hn : n ≤ szLine) {e : Expr} {c : C} {pos : Pos} (ok : XOk S Y ER k W X) (h : cE n S e = some c) (hc : ∀ el gs sc p, e ≠ .ListComp el gs sc p) : PS X (.Expr e pos) (rdS ER W X J0 H0 (denSs Y (shareE n S [e] ++ [.expr c]))) :=
  s_sh (s_expr ((snd_all n hn).e S e c k W X h ok) (swx h hc _ _))
theorem s_cM1 {n : Nat} (hn : n ≤ szLine) {x m : Str} {a : Expr} {b : List MP.S} {p ap cp pos : Pos} (ok : XOk S Y ER k W X) (h : cM1 n S x m a = some b) (hl : (ap.endLine == cp.line) = true) : PS X (.Expr (.Call (.Attribute (.Name x p) m ap) [a] [] cp) pos) (rdS ER W X J0 H0 (denSs Y b)) := by
  · have snd := snd_all (Y := Y) (ER := ER) n (by omega)
    simp only [cM1] at h
    obtain ⟨i, hi, h2⟩ := Option.bind_eq_some_iff.mp h
    clear h
    have app : m = "append" → (cE n S a).map (fun c => shareE n S [a] ++ [MP.S.append i c]) = some b → PS X (.Expr (.Call (.Attribute (.Name x p) m ap) [a] [] cp) pos) (rdS ER W X J0 H0 (denSs Y b)) := by
      intro hm h
      subst hm
      obtain ⟨c, hc, rfl⟩ := Option.map_eq_some_iff.mp h
      exact s_sh (s_append ok hi (snd.e S a c k W X hc ok) (nostar hc) hl)
    split at h2
    · rename_i hm
      have hm := eq_of_beq hm
      split at h2
      · split at h2
        · rename_i hp
          simp only [Bool.and_eq_true] at hp
          have := eq_of_beq hp.1
          subst this hm
          split at h2
          · rename_i hl2
            obtain ⟨j, hj, h3⟩ := Option.bind_eq_some_iff.mp h2
            obtain ⟨c, hc, rfl⟩ := Option.map_eq_some_iff.mp h3
            exact s_sh (s_appPop ok hi hj (snd.e S _ c k W X hc ok) (nostar hc) hl2 hl)
          · cases h2
        · exact app hm h2
      · exact app hm h2
    · split at h2
      · rename_i hm
        have := eq_of_beq hm
        subst this
        obtain ⟨c, hc, rfl⟩ := Option.map_eq_some_iff.mp h2
        exact s_sh (s_extend ok hi (snd.e S a c k W X hc ok) (nostar hc) hl)
      · cases h2
theorem s_cX {n : Nat} (hn : n ≤ szLine) {e : Expr} {b : List MP.S} {pos : Pos} (ok : XOk S Y ER k W X) (h : cX n S e = some b) : PS X (.Expr e pos) (rdS ER W X J0 H0 (denSs Y b)) := by
  · have snd := snd_all (Y := Y) (ER := ER) n (by omega)
    have any : ∀ {e : Expr}, (∀ el gs sc p, e ≠ .ListComp el gs sc p) → (cE n S e).map (fun c => shareE n S [e] ++ [MP.S.expr c]) = some b → PS X (.Expr e pos) (rdS ER W X J0 H0 (denSs Y b)) := by
      intro e he h
      obtain ⟨c, hc, rfl⟩ := Option.map_eq_some_iff.mp h
      exact st_expr (by omega) ok hc he
    unfold cX at h
    split at h
    · split at h
      · split at h
        · rename_i hl
          exact s_cM1 (by omega) ok h hl
        · cases h
      · exact any (fun _ _ _ _ => by simp) h
    · split at h
      · split at h
        · rename_i hm
          simp only [Bool.and_eq_true] at hm
          have := eq_of_beq hm.1
          subst this
          obtain ⟨i, hi, h⟩ := Option.bind_eq_some_iff.mp h
          obtain ⟨kk, hk, h⟩ := Option.bind_eq_some_iff.mp h
          obtain ⟨c, hc, rfl⟩ := Option.map_eq_some_iff.mp h
          exact s_sh (s_insert ok hi (snd.e S _ kk k W X hk ok) (snd.e S _ c k W X hc ok) (nostar hk) (nostar hc) hm.2)
        · cases h
      · exact any (fun _ _ _ _ => by simp) h
    · cases h
    · rename_i h1 h2 h3
      exact any (fun el gs sc p z => h3 el gs sc p z) h
theorem tgNames_cons {t : Expr} {ts : List Expr} {l : List (Nat × Bool)} (h : tgNames S (t :: ts) = some l) : ∃ x px p r, t = .Name x px ∧ tgName S x = some p ∧ tgNames S ts = some r ∧ l = p :: r := by
  unfold tgNames mapO at h
  cases t <;> simp only [reduceCtorEq] at h
  rename_i x px
  cases h1 : tgName S x with
  | none => rw [h1] at h; cases h
  | some p =>
    rw [h1] at h
    generalize h2 : mapO _ ts = o at h
    cases o with
    | none => cases h
    | some r => cases h; exact ⟨x, px, p, r, rfl, h1, h2, rfl⟩
theorem two_names {t1 t2 : Expr} {l : List (Nat × Bool)} (h : tgNames S [t1, t2] = some l) (nd : (l.map (·.1)).Nodup) : ∃ x px y py, t1 = .Name x px ∧ t2 = .Name y py ∧ x ≠ y := by
  obtain ⟨x, px, p, r, rfl, h1, h2, rfl⟩ := tgNames_cons h
  obtain ⟨y, py, q, r', rfl, h3, h4, rfl⟩ := tgNames_cons h2
  refine ⟨x, px, y, py, rfl, rfl, ?_⟩
  rintro rfl
  rw [h1] at h3; cases h3
  simp at nd
theorem three_names {t1 t2 t3 : Expr} {l : List (Nat × Bool)} (h : tgNames S [t1, t2, t3] = some l) (nd : (l.map (·.1)).Nodup) : ∃ x px y py z pz, t1 = .Name x px ∧ t2 = .Name y py ∧ t3 = .Name z pz ∧ x ≠ y ∧ x ≠ z ∧ y ≠ z := by
  obtain ⟨x, px, p, r, rfl, h1, h2, rfl⟩ := tgNames_cons h
  obtain ⟨y, py, q, r', rfl, h3, h4, rfl⟩ := tgNames_cons h2
  obtain ⟨z, pz, q', r'', rfl, h5, h6, rfl⟩ := tgNames_cons h4
  refine ⟨x, px, y, py, z, pz, rfl, rfl, rfl, ?_, ?_, ?_⟩
  · rintro rfl; rw [h1] at h3; cases h3; simp at nd
  · rintro rfl; rw [h1] at h5; cases h5; simp at nd
  · rintro rfl; rw [h3] at h5; cases h5; simp at nd
theorem fm_le {α β : Type} {f : α → Option β} : ∀ {l : List α}, (l.filterMap f).length ≤ l.length
  | [] => Nat.le_refl _
  | a :: l => by
    rw [List.filterMap_cons]
    have := fm_le (f := f) (l := l)
    split
    · simp; omega
    · simp; omega
theorem fm_all {α β : Type} {f : α → Option β} : ∀ {l : List α}, (l.filterMap f).length = l.length → ∀ a ∈ l, ∃ b, f a = some b
  | [], _, a, h => by cases h
  | x :: l, h, a, hm => by
    rw [List.filterMap_cons] at h
    have le := fm_le (f := f) (l := l)
    split at h
    · simp at h; omega
    · rename_i b hb
      rcases List.mem_cons.mp hm with rfl | hm
      · exact ⟨b, hb⟩
      · exact fm_all (by simpa using h) a hm
def nmf (env : PySem.Env) (ln : Nat) : Expr → Option Str
    | .Name id pos => if env.kindOf id == some .local && pos.line == ln then some id else none
    | _ => none
theorem swN_eq {env : PySem.Env} {ts : List Expr} : swNames env ts = ts.filterMap (nmf env ((ts.head?.map (·.pos.line)).getD 0)) := by
  unfold swNames
  congr 1
theorem nmf_name {env : PySem.Env} {ln : Nat} {x : Str} {px : Pos} {b : Str} (h : nmf env ln (.Name x px) = some b) : env.scope.names.lookup x = some .local ∧ b = x := by
  unfold nmf at h
  dsimp only at h
  split at h
  · rename_i c
    cases h
    simp only [Bool.and_eq_true] at c
    exact ⟨by have := c.1; exact (beq_iff_eq.mp this), rfl⟩
  · cases h
theorem sw_two {env : PySem.Env} {x y : Str} {px py : Pos} (h : (swNames env [.Name x px, .Name y py]).length = [Expr.Name x px, Expr.Name y py].length) : env.scope.names.lookup x = some .local ∧ env.scope.names.lookup y = some .local ∧ swNames env [.Name x px, .Name y py] = [x, y] := by
  rw [swN_eq] at h ⊢
  obtain ⟨b1, h1⟩ := fm_all h (.Name x px) (by simp)
  obtain ⟨b2, h2⟩ := fm_all h (.Name y py) (by simp)
  obtain ⟨e1, rfl⟩ := nmf_name h1
  obtain ⟨e2, rfl⟩ := nmf_name h2
  exact ⟨e1, e2, by simp only [List.filterMap_cons, h1, h2, List.filterMap_nil]⟩
theorem sw_three {env : PySem.Env} {x y z : Str} {px py pz : Pos} (h : (swNames env [.Name x px, .Name y py, .Name z pz]).length = [Expr.Name x px, Expr.Name y py, Expr.Name z pz].length) :
    env.scope.names.lookup x = some .local ∧ env.scope.names.lookup y = some .local ∧ env.scope.names.lookup z = some .local ∧ swNames env [.Name x px, .Name y py, .Name z pz] = [x, y, z] := by
  rw [swN_eq] at h ⊢
  obtain ⟨b1, h1⟩ := fm_all h (.Name x px) (by simp)
  obtain ⟨b2, h2⟩ := fm_all h (.Name y py) (by simp)
  obtain ⟨b3, h3⟩ := fm_all h (.Name z pz) (by simp)
  obtain ⟨e1, rfl⟩ := nmf_name h1
  obtain ⟨e2, rfl⟩ := nmf_name h2
  obtain ⟨e3, rfl⟩ := nmf_name h3
  exact ⟨e1, e2, e3, by simp only [List.filterMap_cons, h1, h2, h3, List.filterMap_nil]⟩
theorem tg_bad : ∀ {n : Nat} {ts : List Expr} {l : List Tg}, cTgs n S ts = some l → tgNames S ts = none → ∃ t ∈ ts, ∀ x p, t ≠ .Name x p
  | 0, ts, l, h, _ => by simp [cTgs] at h
  | n + 1, [], l, _, h => by simp [tgNames, mapO] at h
  | n + 1, t :: ts, l, h, hn => by
    simp only [cTgs] at h
    obtain ⟨a, ha, h⟩ := Option.bind_eq_some_iff.mp h
    obtain ⟨r, hr, _⟩ := Option.map_eq_some_iff.mp h
    by_cases ht : ∃ x p, t = .Name x p
    · obtain ⟨x, p, rfl⟩ := ht
      have h1 : ∃ q, tgName S x = some q := by
        cases n with
        | zero => simp [cTg] at ha
        | succ n =>
          simp only [cTg] at ha
          obtain ⟨q, hq, _⟩ := Option.bind_eq_some_iff.mp ha
          exact ⟨q, hq⟩
      obtain ⟨q, hq⟩ := h1
      have h2 : tgNames S ts = none := by
        cases e : tgNames S ts with
        | none => rfl
        | some r =>
          exfalso
          unfold tgNames mapO at hn
          dsimp only at hn
          rw [hq] at hn
          unfold tgNames at e
          rw [e] at hn
          cases hn
      obtain ⟨t, h3, h4⟩ := tg_bad hr h2
      exact ⟨t, by simp [h3], h4⟩
    · exact ⟨t, by simp, fun x p z => ht ⟨x, p, z⟩⟩
theorem sw_less {env : PySem.Env} {n : Nat} {ts : List Expr} {l : List Tg} (h : cTgs n S ts = some l) (hn : tgNames S ts = none) : (swNames env ts).length < ts.length := by
  obtain ⟨t, h1, h2⟩ := tg_bad h hn
  rw [swN_eq]
  rcases Nat.lt_or_ge (ts.filterMap (nmf env ((ts.head?.map (·.pos.line)).getD 0))).length ts.length with h3 | h3
  · exact h3
  · obtain ⟨b, hb⟩ := fm_all (Nat.le_antisymm fm_le h3) t h1
    cases t <;> first | exact absurd rfl (h2 _ _) | cases hb
theorem len2 {α : Type} {l : List α} (h : l.length = 2) : ∃ a b, l = [a, b] := by match l, h with | [a, b], _ => exact ⟨a, b, rfl⟩
theorem len3 {α : Type} {l : List α} (h : l.length = 3) : ∃ a b c, l = [a, b, c] := by match l, h with | [a, b, c], _ => exact ⟨a, b, c, rfl⟩
theorem s_cAsg {n : Nat} (hn : n ≤ szLine) {t v : Expr} {b : List MP.S} {pos : Pos} (ok : XOk S Y ER k W X) (h : cAsg n S t v = some b) : PS X (.Assign [t] v pos) (rdS ER W X J0 H0 (denSs Y b)) := by
  · have snd := snd_all (Y := Y) (ER := ER) n (by omega)
    have name : ∀ {x : Str} {px : Pos}, ((tgName S x).bind fun p => (cE n S v).map fun c => shareE n S [v] ++ [MP.S.set p.1 p.2 c]) = some b → PS X (.Assign [.Name x px] v pos) (rdS ER W X J0 H0 (denSs Y b)) := by
      intro x px h
      obtain ⟨p, hp, h⟩ := Option.bind_eq_some_iff.mp h
      obtain ⟨c, hc, rfl⟩ := Option.map_eq_some_iff.mp h
      exact s_sh (s_set (by omega) ok hp hc)
    have asg : (∀ x p, t ≠ .Name x p) → (swappedStores [t] v X.env = pure none) → (assignEach [t] X.env).map (·.2) = [assign t X.env] → ((cTg n S t).bind fun t' => (cE n S v).map fun c => shareE n S [v] ++ [MP.S.asg t' c]) = some b → PS X (.Assign [t] v pos) (rdS ER W X J0 H0 (denSs Y b)) := by
      intro ht hw h1 h
      obtain ⟨t', ht', h⟩ := Option.bind_eq_some_iff.mp h
      obtain ⟨c, hc, rfl⟩ := Option.map_eq_some_iff.mp h
      exact s_sh (s_asg (snd.e S v c k W X hc ok) (g_all n (by omega) ht' ok) (sws hc ht _ _) hw h1)
    unfold cAsg at h
    split at h
    · split at h
      · split at h
        · rename_i hm
          simp only [Bool.and_eq_true] at hm
          have := eq_of_beq hm.1.1
          subst this
          obtain ⟨p, hp, h⟩ := Option.bind_eq_some_iff.mp h
          split at h
          · cases h
          · obtain ⟨q, hq, h⟩ := Option.bind_eq_some_iff.mp h
            obtain ⟨c, hc, rfl⟩ := Option.map_eq_some_iff.mp h
            exact s_sh (s_setPop ok hp (slot_of_tg hq) (snd.e S _ c k W X hc ok) (nostar hc) hm.2)
        · exact name h
      · split at h
        · obtain ⟨p, hp, h⟩ := Option.bind_eq_some_iff.mp h
          obtain ⟨j, hj, rfl⟩ := Option.map_eq_some_iff.mp h
          exact s_sh (S := S) (n := 0) (es := []) (s_move ok hp hj)
        · exact name h
      · exact name h
    · rename_i ts kt pt
      split at h
      · rename_i vs k2 p2
        split at h
        · rename_i l hl
          split at h
          · rename_i hf
            exact asg (fun _ _ => by simp) (sw_fold hf) rfl h
          · rename_i hf
            have hf : vs.all (foldedForSure 8) = false := by simpa using hf
            split at h
            · rename_i hc
              obtain ⟨cs, hcs, rfl⟩ := Option.map_eq_some_iff.mp h
              simp only [Bool.and_eq_true, parOk, decide_eq_true_eq] at hc
              obtain ⟨⟨⟨⟨c1, c2⟩, c3⟩, c4⟩, nd⟩ := hc
              have hca : vs.all (constantsAlone 8) = false := by simpa using c4
              have ht : tgNames S ts = some l := hl
              refine s_sh ⟨fun pins s σ H En I q => ?_⟩
              have hb : X.env.blockKind = .function := by unfold Env.blockKind; rw [I.ok.kind]; rfl
              have hlen : vs.length = ts.length := eq_of_beq c2
              by_cases hnm : (swNames X.env ts).length = ts.length
              · have hst := cEs_star hcs
                rcases Bool.or_eq_true _ _ |>.mp c1 with c1' | c1'
                · have l2 : ts.length = 2 := eq_of_beq c1'
                  obtain ⟨t1, t2, rfl⟩ := len2 l2
                  obtain ⟨a, b, rfl⟩ := len2 (hlen.trans l2)
                  · obtain ⟨x, px, y, py, rfl, rfl, hxy⟩ := two_names ht nd
                    obtain ⟨e1, e2, e3⟩ := sw_two hnm
                    have hw := sw_some (kt := kt) (pt := pt) (k2 := k2) (p2 := p2) hb c1 c2 hst hf hca hnm (by rw [e3]; simp [List.eraseDups_cons, hxy.symm])
                    rw [e3] at hw
                    exact (s_par2 hn ok ht nd hcs e1 e2 hw).run pins s σ H En I q
                · have l3 : ts.length = 3 := eq_of_beq c1'
                  obtain ⟨t1, t2, t3, rfl⟩ := len3 l3
                  obtain ⟨a, b, c, rfl⟩ := len3 (hlen.trans l3)
                  · obtain ⟨x, px, y, py, z, pz, rfl, rfl, rfl, hxy, hxz, hyz⟩ := three_names ht nd
                    obtain ⟨e1, e2, e3, e4⟩ := sw_three hnm
                    have hw := sw_some (kt := kt) (pt := pt) (k2 := k2) (p2 := p2) hb c1 c2 hst hf hca hnm (by rw [e4]; simp [List.eraseDups_cons, hxy.symm, hxz.symm, hyz.symm])
                    rw [e4] at hw
                    exact (s_par3 hn ok ht nd hcs e1 e2 e3 hw).run pins s σ H En I q
              · exact (s_parU (by omega) ok ht nd hcs hlen (sw_none hnm)).run pins s σ H En I q
            · cases h
        · rename_i hl
          obtain ⟨t', ht', _⟩ := Option.bind_eq_some_iff.mp h
          refine asg (fun _ _ => by simp) (sw_none ?_) rfl h
          cases n with
          | zero => simp [cTg] at ht'
          | succ n =>
            obtain ⟨ts', hts, rfl⟩ := Option.map_eq_some_iff.mp (show (cTgs n S ts).map Tg.tup = some t' by simpa [cTg] using ht')
            exact Nat.ne_of_lt (sw_less hts (show tgNames S ts = none from hl))
      · rename_i hv
        refine asg (fun _ _ => by simp) ?_ rfl h
        cases v <;> first | rfl | exact absurd rfl (hv _ _ _)
    · rename_i h1 h2
      obtain ⟨t', ht', _⟩ := Option.bind_eq_some_iff.mp h
      refine asg (fun x p => h1 x p) ?_ ?_ h
      · cases t <;> first | rfl | exact absurd rfl (h2 _ _ _) | skip
        all_goals (cases n <;> simp [cTg] at ht')
      · cases t <;> first | rfl | skip
        all_goals (cases n <;> simp [cTg] at ht')
end
end MP
end

section
set_option linter.all false
set_option Elab.async false
set_option maxRecDepth 100000
set_option maxHeartbeats 8000000
namespace MP
open PySem PySem.Spec PyProof.Rows L2
section
variable {S : Cs} {Y : Ctx} {ER : ExR} {k : Nat} {W : WX} {X : Cx} {J0 : Jt} {H0 : Hp}
theorem s_never {st : Stmt} {c : Nat} {cs : List C} : PS X st (rdS ER W X J0 H0 (denS Y (.raise c cs))) := PS.imp ps_never fun D σ H h => by
  obtain ⟨J, M, e, a, h⟩ := h
  exact h.elim
theorem s_main (n : Nat) (hn : n ≤ szLine) (ih : ∀ {ss : List Stmt} {b : List MP.S}, cSs n S ss = some b → XOk S Y ER k W X → PSs X ss (rdS ER W X J0 H0 (denSs Y b))) {st : Stmt} {b : List MP.S} (h : cS (n + 1) S st = some b) (ok : XOk S Y ER k W X) : PS X st (rdS ER W X J0 H0 (denSs Y b)) := by
  have snd := snd_all (Y := Y) (ER := ER) n hn
  have ret : ∀ {e : Expr} {pos : Pos}, (cE n S e).map (fun c => shareE n S [e] ++ [MP.S.ret c]) = some b → PS X (.Return (some e) pos) (rdS ER W X J0 H0 (denSs Y b)) := by
    intro e pos h
    obtain ⟨c, hc, rfl⟩ := Option.map_eq_some_iff.mp h
    exact s_sh (s_ret (snd.e S e c k W X hc ok))
  unfold cS at h
  split at h
  · exact s_cAsg hn ok h
  · obtain ⟨p, hp, h⟩ := Option.bind_eq_some_iff.mp h
    split at h
    · cases h
    · obtain ⟨o, ho, h⟩ := Option.bind_eq_some_iff.mp h
      obtain ⟨c, hc, rfl⟩ := Option.map_eq_some_iff.mp h
      exact s_sh (s_aug ok hp ho (snd.e S _ c k W X hc ok))
  · split at h
    · obtain ⟨i, hi, h⟩ := Option.bind_eq_some_iff.mp h
      obtain ⟨ck, hk, h⟩ := Option.bind_eq_some_iff.mp h
      obtain ⟨c, hc, rfl⟩ := Option.map_eq_some_iff.mp h
      exact s_sh (s_augSub ok hi hk (snd.e S _ ck k W X hk ok) (snd.e S _ c k W X hc ok))
    · cases h
  · obtain ⟨t, ht, h⟩ := Option.bind_eq_some_iff.mp h
    obtain ⟨kk, hk, h⟩ := Option.bind_eq_some_iff.mp h
    split at h
    · rename_i hok
      obtain ⟨bb, hb, rfl⟩ := Option.map_eq_some_iff.mp h
      obtain ⟨i1, i2⟩ := snd.it S S n _ _ kk.1 kk.2 t k W X hk hok ht ok
      exact s_sh (s_for ok i1 (pg_tn n ht ok) (ih hb ok) i2 (fun h => bindT_new t h))
    · cases h
  · split at h
    · obtain ⟨c, hc, h⟩ := Option.bind_eq_some_iff.mp h
      obtain ⟨bb, hb, rfl⟩ := Option.map_eq_some_iff.mp h
      exact s_one (s_while ok (snd.t S _ c k W X hc ok) (ih hb ok))
    · cases h
  · obtain ⟨c, hc, h⟩ := Option.bind_eq_some_iff.mp h
    obtain ⟨a, ha, h⟩ := Option.bind_eq_some_iff.mp h
    obtain ⟨bb, hb, rfl⟩ := Option.map_eq_some_iff.mp h
    exact s_sh (s_if (snd.t S _ c k W X hc ok) (ih ha ok) (ih hb ok))
  · cases h
    exact s_one s_retN
  · split at h
    · obtain ⟨i, hi, rfl⟩ := Option.map_eq_some_iff.mp h
      exact s_one (s_retO ok hi)
    · obtain ⟨c, hc, rfl⟩ := Option.map_eq_some_iff.mp h
      exact s_one (s_ret (snd.e S _ c k W X hc ok))
  · split at h
    · obtain ⟨cs, hcs, rfl⟩ := Option.map_eq_some_iff.mp h
      have hl := cEs_len hcs
      exact s_one (s_ret (e_mkmut (snd.es S _ cs k W X hcs ok).1 (by omega)))
    · obtain ⟨c, hc, rfl⟩ := Option.map_eq_some_iff.mp h
      exact s_sh (s_ret (snd.e S _ c k W X hc ok))
  · exact ret h
  · exact s_cX hn ok h
  · cases h
    exact s_one s_pass
  · cases h
    exact s_one s_never
  · cases h
theorem ss_all : ∀ (n : Nat), n ≤ szLine → ∀ {ss : List Stmt} {b : List MP.S}, cSs n S ss = some b → XOk S Y ER k W X → PSs X ss (rdS ER W X J0 H0 (denSs Y b)) := by
  intro n
  induction n using Nat.strongRecOn with
  | _ n ih =>
    intro hn ss b h ok
    cases n with
    | zero => simp [cSs] at h
    | succ n =>
      cases ss with
      | nil => simp [cSs] at h; subst h; exact ss_nil
      | cons s r =>
        simp only [cSs] at h
        obtain ⟨a, ha, h⟩ := Option.bind_eq_some_iff.mp h
        obtain ⟨b', hb, rfl⟩ := Option.map_eq_some_iff.mp h
        refine ss_seq ?_ (ih n (by omega) (by omega) hb ok)
        cases n with
        | zero => simp [cS] at ha
        | succ n => exact s_main n (by omega) (fun h ok => ih n (by omega) (by omega) h ok) ha ok
end
end MP
end

section
set_option linter.all false
set_option Elab.async false
set_option maxRecDepth 100000
set_option maxHeartbeats 8000000
namespace MP
open PySem PySem.Spec PyProof.Rows L2
/-- a def by its body (HandS's fn_of, the guards told) -/
theorem fok_of {P : Program} {w : World} {K : PySem.W.Frag} {mg : Str → Option Value} {base : Heap} {k : Nat} {f : Addr} {name qual : Str} {params : Arguments} {body : List Stmt} {scope : Scope} {dV kV doc pm cdv ct oc : Value} {an od : Option Addr}
    {osl : Array (Option Value)} {N ps : List Str} {sp : Sp} (lk : K.lookup f = some ⟨oc, od, .func (PySem.W.fnOf name qual params body scope dV kV doc pm an cdv ct), osl⟩) (hcd : PySem.W.codeIn K cdv qual = true) (S : FnScope N ps scope)
    (len : ∀ vs H Q E, sp vs H Q E → vs.length = ps.length)
    (hbody : ∀ (A : Around) (outer : List PySem.Env) (s : Shared) (H : Hp) (vs : List V) (Q : VK) (E : XK), Room k (A.deeper (envOfC qual scope s.heap.objs.size f cdv)) → ((A.deeper (envOfC qual scope s.heap.objs.size f cdv)).depth + 3 * k + 7 < recursionLimit ∧ (A.deeper (envOfC qual scope s.heap.objs.size f cdv)).units + 16 * k + 212 < cLine) → A.guards = some [] → sp vs H Q E →
      ∃ t, PSs (cxOf (L2.CX P w) P w K mg base N qual scope f cdv A outer s H E) body t ∧ t { nx := fun _ H' => Q .non H', rt := Q } (start N vs) H) :
    FOk P w K mg base (k + 1) f (PySem.W.fnOf name qual params body scope dV kV doc pm an cdv ct) ps sp := by
  refine ⟨fun A outer s H args us vs Q E hr hgd e0 hb r hsp => ?_⟩
  have hl := len _ _ _ _ hsp
  have KX : K.In s.heap := e0.mod.kin.keeps fun b o e => (e0.bs b o e).1
  have lim : s.heap.NoLimit := e0.mod.nolimit.keeps fun b o e => (e0.bs b o e).1
  have hkind : ∀ y ∈ ps.zip us, scope.names.lookup y.1 = some .local ∨ (scope.names.lookup y.1 = some .cell ∧ ((cellsFrom (s.heap.objs.size + 1) scope.names []).lookup y.1).isSome = true) := fun ⟨n, v⟩ hy => by
    rcases S.par n (List.of_mem_zip hy).1 with q | q
    · exact .inl q
    · exact .inr ⟨q, PySem.W.cellsFrom_some _ _ _ (.inl q)⟩
  refine codeAny_call_function hr.depth (KX _ _ lk) rfl S.co S.gen rfl (PySem.W.codeRec_of KX hcd) (hb _ _ _ _ ?_)
  refine wpAny_newFunctionEnv_cells S.kind hkind fun env he s1 x => ?_
  subst he
  refine ⟨lim.keeps x.toInCall.keep, codeAny_func ?_⟩
  obtain ⟨t, ht, hq⟩ := hbody A outer s H vs Q E (hr.deeper _) ⟨by have := hr.dp; show A.depth + 1 + 3 * k + 7 < _; omega, by have := hr.un; show A.units + 3 + 16 * k + 212 < _; omega⟩ hgd hsp
  have I : Inv (cxOf (L2.CX P w) P w K mg base N qual scope f cdv A outer s H E) [] (start N vs) H s1 := inv_start S hr.hd e0 hl r x
  refine wpAny_mono (ht.run [] s1 (start N vs) H _ I hq) (fun fl s' hs => ?_) fun e s' hs => hs
  have fin : ∀ {σ' : L2.St} {H' : Hp} {v : V} {u : Value}, Inv (cxOf (L2.CX P w) P w K mg base N qual scope f cdv A outer s H E) [] σ' H' s' → RelV v u → Q v H' → CE outer P w H s Q u s' :=
    fun {σ' H' v u} J rv q => ⟨v, H', J.os, J.bare, J.base, J.hok, rv, q⟩
  cases fl with
  | ret u =>
    obtain ⟨v, σ', H', J, rv, q⟩ := hs
    exact fin J rv q
  | next =>
    obtain ⟨σ', H', J, q⟩ := hs
    exact fin (v := V.non) (u := Value.none) J rfl q
  | brk =>
    obtain ⟨_, _, _, q⟩ := hs
    exact False.elim q
  | cont =>
    obtain ⟨_, _, _, q⟩ := hs
    exact False.elim q
/-- the def as read -/
theorem fok_main {P : Program} {w : World} {K : PySem.W.Frag} {mg : Str → Option Value} {base : Heap} {k : Nat} {f : Addr} {name qual : Str} {params : Arguments} {body : List Stmt} {scope : Scope} {dV kV doc pm cdv ct oc : Value} {an od : Option Addr}
    {osl : Array (Option Value)} {S : Cs} {Y : Ctx} {ER : ExR} {ps : List Str} {b : List MP.S} (lk : K.lookup f = some ⟨oc, od, .func (PySem.W.fnOf name qual params body scope dV kV doc pm an cdv ct), osl⟩) (hcd : PySem.W.codeIn K cdv qual = true) (hsc : S.sc = scope) (FS : FnScope S.N ps scope)
    (nodb : S.N.all (fun x => !(x == ("__debug__" : Str)) && !(x == ("__classdict__" : Str))) = true) (G : Globs S Y ER k P w K mg base) {n : Nat} (hn : n ≤ szLine) (hb : cSs n S body = some b) (hp : ps.length ≤ S.N.length) :
    FOk P w K mg base (k + 1) f (PySem.W.fnOf name qual params body scope dV kV doc pm an cdv ct) ps (spOf K w ER ps.length (fnRun Y ⟨S.N.length, ps.length, b, 0⟩)) := by
  refine fok_of lk hcd FS (fun vs H Q E h => ?_) fun A outer s H vs Q E hr hsk hgd hsp => ?_
  · obtain ⟨J, M, ds, _, rl, hl, _⟩ := h
    rw [rl.len, hl]
  · obtain ⟨J, M, ds, hd, rl, hl, h⟩ := hsp
    let X := cxOf (L2.CX P w) P w K mg base S.N qual scope f cdv A outer s H E
    have ok : XOk S Y ER k (fun cls d _ H' => E cls d H') X := {
      N := rfl
      nd := FS.nd
      nodb := fun x hx => by
        have := List.all_eq_true.mp nodb x hx
        simpa using this
      sc := fun x kd h => .inl (by rw [hsc] at h; exact h)
      fn := fun x h => rfl
      calm := rfl
      room := hr
      slack := hsk
      guards := hgd
      tk := takes_of rfl rfl rfl rfl
      own := passes_of rfl
      G := G }
    refine ⟨rdS ER (fun cls d _ H' => E cls d H') X J H (denSs Y b), ss_all n hn hb ok, ?_⟩
    have hlen : vs.length = ps.length := by rw [rl.len, hl]
    have nown : ∀ (i : Nat) (d : D), (ds.map (fun d => some (d, false)) ++ List.replicate (S.N.length - ps.length) none : MP.Env)[i]? ≠ some (some (d, true)) := by
      intro i d he
      by_cases hi : i < ds.length
      · rw [List.getElem?_append_left (by simpa using hi), List.getElem?_map] at he
        obtain ⟨d', h1, h2⟩ := Option.map_eq_some_iff.mp he
        cases h2
      · rw [List.getElem?_append_right (by simpa using hi), List.getElem?_replicate] at he
        split at he <;> cases he
    refine ⟨J, M, ds.map (fun d => some (d, false)) ++ List.replicate (S.N.length - ps.length) none, ⟨.refl _ _, hd, ⟨?_, fun i d he => ?_, fun i d he => absurd he (nown i d), fun i j d d' a h1 _ _ _ => absurd h1 (nown i d)⟩, fun i d a h1 _ => absurd h1 (nown i d)⟩, ?_⟩
    · unfold L2.start
      simp [rl.len, hl]
    · have hi : i < ds.length := by
        by_cases hi : i < ds.length
        · exact hi
        · rw [List.getElem?_append_right (by simpa using hi), List.getElem?_replicate] at he
          split at he <;> cases he
      rw [List.getElem?_append_left (by simpa using hi), List.getElem?_map] at he
      obtain ⟨d', h1, h2⟩ := Option.map_eq_some_iff.mp he
      cases h2
      obtain ⟨v, h3, h4⟩ := rl.get h1
      refine ⟨v, ?_, h4⟩
      unfold L2.start
      rw [List.getElem?_append_left (by simpa [rl.len] using hi), List.getElem?_map, h3]
      rfl
    · unfold fnRun at h
      rw [if_pos hl] at h
      simp only [List.replicate_zero, List.nil_append, Nat.sub_zero] at h
      unfold MM.bind at h
      dsimp only at h
      cases q : denSs Y b (ds.map (fun d => some (d, false)) ++ List.replicate (S.N.length - ps.length) none) M with
      | ok fl M1 =>
        rw [q] at h
        cases fl with
        | nx e' => exact fun σ' J' H' a x => h .non H' J' a.go a.hd .non
        | rt d o => exact fun J' H' g hd' v r => h v H' J' g hd' r
      | exc c p M1 =>
        rw [q] at h
        exact fun cv dd σ' J' H' g hd' er => h cv dd H' J' g hd' er
      | bad => rw [q] at h; exact h
end MP
end

section
set_option linter.all false
set_option Elab.async false
set_option maxRecDepth 100000
set_option maxHeartbeats 8000000
namespace MP
open PySem PySem.Spec PyProof.Rows L2
theorem lookup_zip {α : Type} : ∀ {ps : List Str} {us : List α} {i : Nat} {x : Str}, ps.Nodup → ps.length ≤ us.length → ps[i]? = some x → (ps.zip us).lookup x = us[i]?
  | [], us, i, x, _, _, h => by simp at h
  | p :: ps, [], i, x, _, h, _ => by simp at h
  | p :: ps, u :: us, 0, x, nd, _, h => by simp at h; subst h; simp [List.lookup]
  | p :: ps, u :: us, i + 1, x, nd, hl, h => by
    simp only [List.nodup_cons] at nd
    have hm : ps[i]? = some x := by simpa using h
    have hne : (x == p) = false := by
      have : x ≠ p := fun e => nd.1 (e ▸ List.mem_of_getElem? hm)
      simpa using this
    simp only [List.zip_cons_cons, List.lookup, hne]
    rw [lookup_zip nd.2 (by simpa using hl) hm]
    simp
theorem fm_zip {α : Type} : ∀ {ps : List Str} {us : List α} (f : Str → Option α), ps.length = us.length → (∀ (i : Nat) x, ps[i]? = some x → f x = us[i]?) → ps.filterMap (fun n => (f n).map (n, ·)) = ps.zip us
  | [], us, f, _, _ => by simp
  | p :: ps, [], f, h, _ => by simp at h
  | p :: ps, u :: us, f, h, hf => by
    have h0 := hf 0 p rfl
    simp at h0
    rw [List.filterMap_cons, h0]
    simp only [Option.map_some, List.zip_cons_cons]
    rw [fm_zip f (by simpa using h) fun i x hi => by simpa using hf (i + 1) x (by simpa using hi)]
theorem bind_pos {fd : FuncData} {us : List Value} (hp : plainPs fd.params = true) (hd : fd.defaults = .none) (nd : (fd.params.args.map (·.arg)).Nodup) (hl : us.length = (fd.params.args.map (·.arg)).length) :
    bindArgs fd ⟨us, []⟩ = pure ((fd.params.args.map (·.arg)).zip us) := by
  simp only [plainPs, Bool.and_eq_true, List.isEmpty_iff, Option.isNone_iff_eq_none] at hp
  obtain ⟨⟨⟨h1, h2⟩, h3⟩, h4⟩ := hp
  obtain ⟨ps, hps⟩ : ∃ ps, ps = fd.params.args.map (·.arg) := ⟨_, rfl⟩
  rw [← hps] at nd hl ⊢
  have hlook : ∀ n ∈ ps, ((ps.zip us).lookup n).isNone = false := by
    intro n hn
    obtain ⟨i, hi⟩ := List.mem_iff_getElem?.mp hn
    rw [lookup_zip nd (by omega) hi]
    have : i < us.length := by rw [hl]; exact (List.getElem?_eq_some_iff.mp hi).1
    simp [List.getElem?_eq_getElem this]
  have hmiss : ps.filter (fun n => ((ps.zip us).lookup n).isNone) = [] := by
    rw [List.filter_eq_nil_iff]
    intro n hn
    rw [hlook n hn]
    exact Bool.false_ne_true
  have hfm : ps.filterMap (fun n => ((ps.zip us).lookup n).map (n, ·)) = ps.zip us := fm_zip _ hl.symm fun i x hi => lookup_zip nd (by omega) hi
  unfold bindArgs
  simp only [h1, h2, h3, h4, hd, ← hps, List.map_nil, List.nil_append, List.append_nil]
  simp [seqItems?, hmiss, hfm, hl]
  rfl
theorem forIn_step {α β : Type} {f : α → β → Sem (ForInStep β)} (g : α → β → β) (Inv : List α → β → Prop) (h : ∀ a r b, Inv (a :: r) b → f a b = pure (.yield (g a b)) ∧ Inv r (g a b)) : ∀ (l : List α) (b : β), Inv l b → forIn l b f = pure (l.foldl (fun b a => g a b) b)
  | [], b, _ => by simp
  | a :: l, b, hi => by
    obtain ⟨h1, h2⟩ := h a l b hi
    rw [List.forIn_cons, h1]
    simp only [pure_bind]
    rw [forIn_step g Inv h l _ h2]
    rfl
theorem foldl_slots {α β : Type} : ∀ (l : List α) (s : List α) (e : β), l.foldl (fun (b : List α × β) a => (b.1 ++ [a], b.2)) (s, e) = (s ++ l, e)
  | [], s, e => by simp
  | a :: l, s, e => by rw [List.foldl_cons, foldl_slots l]; simp
theorem lookup_none_of {α : Type} {x : Str} : ∀ {l : List (Str × α)}, x ∉ l.map (·.1) → l.lookup x = none
  | [], _ => rfl
  | (k, v) :: l, h => by
    simp only [List.map_cons, List.mem_cons, not_or] at h
    have : (x == k) = false := by simpa using h.1
    simp only [List.lookup, this]
    exact lookup_none_of h.2
theorem bind_kw {fd : FuncData} {us ws : List Value} {ks : List Str} {pm : List Nat} (hp : plainPs fd.params = true) (hd : fd.defaults = .none) (nd : (fd.params.args.map (·.arg)).Nodup) (hk : ks.Nodup) (hin : ∀ k ∈ ks, k ∈ (fd.params.args.map (·.arg)).drop us.length)
    (hlw : ws.length = ks.length) (hn : us.length + ks.length = (fd.params.args.map (·.arg)).length) (hpm : permOf ks us.length (fd.params.args.map (·.arg)) = some pm) :
    bindArgs fd ⟨us, ks.zip ws⟩ = pure ((fd.params.args.map (·.arg)).zip (pm.map fun i => (us ++ ws).getD i .none)) := by
  simp only [plainPs, Bool.and_eq_true, List.isEmpty_iff, Option.isNone_iff_eq_none] at hp
  obtain ⟨⟨⟨h1, h2⟩, h3⟩, h4⟩ := hp
  obtain ⟨ps, hps⟩ : ∃ ps, ps = fd.params.args.map (·.arg) := ⟨_, rfl⟩
  rw [← hps] at nd hin hn hpm ⊢
  have hmem : ∀ k ∈ ks, k ∈ ps := fun k hk => List.mem_of_mem_drop (hin k hk)
  have hzk : (ks.zip ws).map (·.1) = ks := by rw [List.map_fst_zip]; omega
  have hpos : ∀ k ∈ ks, k ∉ (ps.zip us).map (·.1) := by
    intro k hk hm
    have hm2 : k ∈ ps.take us.length := by
      have : (ps.zip us).map (·.1) = ps.take us.length := by
        have : ∀ (a : List Str) (b : List Value), b.length ≤ a.length → (a.zip b).map (·.1) = a.take b.length := by
          intro a
          induction a with
          | nil => intro b h; simp
          | cons x a ih => intro b h; cases b with
            | nil => simp
            | cons y b => simp [ih b (by simpa using h)]
        exact this ps us (by omega)
      rw [this] at hm; exact hm
    have hm3 := hin k hk
    obtain ⟨i, hi⟩ := List.mem_iff_getElem?.mp hm2
    obtain ⟨j, hj⟩ := List.mem_iff_getElem?.mp hm3
    have hil : i < us.length := by
      have := (List.getElem?_eq_some_iff.mp hi).1
      simp at this; omega
    rw [List.getElem?_take_of_lt hil] at hi
    rw [List.getElem?_drop] at hj
    have := (List.getElem?_inj (List.getElem?_eq_some_iff.mp hi).1 nd).mp (hi.trans hj.symm)
    omega
  -- what a name finds
  obtain ⟨slots, hsl⟩ : ∃ s, s = ps.zip us ++ ks.zip ws := ⟨_, rfl⟩
  have hval : ∀ (i : Nat) x, ps[i]? = some x → slots.lookup x = (pm.map fun i => (us ++ ws).getD i .none)[i]? := by
    intro i x hx
    have hil : i < ps.length := (List.getElem?_eq_some_iff.mp hx).1
    obtain ⟨e1, e2⟩ := mapO_some hpm
    have hzi : (ps.zip (List.range ps.length))[i]? = some (x, i) := by
      rw [List.getElem?_zip_eq_some]
      exact ⟨hx, by rw [List.getElem?_range hil]⟩
    obtain ⟨m, hm, hm2⟩ := e2 i _ hzi
    rw [List.getElem?_map, hm2, hsl, List.lookup_append]
    dsimp only at hm
    split at hm
    · rename_i hlt
      cases hm
      have : (ps.zip us).lookup x = us[i]? := by
        have key : ∀ (a : List Str) (b : List Value) (i : Nat) (x : Str), a.Nodup → i < b.length → a[i]? = some x → (a.zip b).lookup x = b[i]? := by
          intro a
          induction a with
          | nil => intro b i x _ _ h; simp at h
          | cons p a ih =>
            intro b i x nd hb h
            cases b with
            | nil => simp at hb
            | cons u b =>
              cases i with
              | zero => simp at h; subst h; simp [List.lookup]
              | succ i =>
                simp only [List.nodup_cons] at nd
                have hm : a[i]? = some x := by simpa using h
                have hne : (x == p) = false := by
                  have : x ≠ p := fun e => nd.1 (e ▸ List.mem_of_getElem? hm)
                  simpa using this
                simp only [List.zip_cons_cons, List.lookup, hne]
                rw [ih b i x nd.2 (by simpa using hb) hm]
                simp
        exact key ps us i x nd hlt hx
      rw [this, List.getElem?_eq_getElem hlt]
      have hlt2 : i < (us ++ ws).length := by simp; omega
      simp [List.getElem?_eq_getElem hlt2, List.getElem_append_left hlt]
    · rename_i hlt
      obtain ⟨j, hj, rfl⟩ := Option.map_eq_some_iff.mp hm
      have hkj := findIdx_get hj
      have hxk : x ∈ ks := List.mem_of_getElem? hkj
      have hjl : j < ws.length := by rw [hlw]; exact (List.getElem?_eq_some_iff.mp hkj).1
      rw [lookup_none_of (hpos x hxk), Option.none_or]
      rw [lookup_zip hk (by omega) hkj, List.getElem?_eq_getElem hjl]
      have e : (us ++ ws).getD (us.length + j) Value.none = ws[j] := by
        rw [List.getD_eq_getElem?_getD, List.getElem?_append_right (by omega)]
        simp [hjl]
      rw [Option.map_some, e]
  have hlen : pm.length = ps.length := by rw [← (mapO_some hpm).1]; simp
  have hlook : ∀ n ∈ ps, (slots.lookup n).isNone = false := by
    intro n hn
    obtain ⟨i, hi⟩ := List.mem_iff_getElem?.mp hn
    rw [hval i n hi]
    have : i < (pm.map fun i => (us ++ ws).getD i .none).length := by rw [List.length_map, hlen]; exact (List.getElem?_eq_some_iff.mp hi).1
    rw [List.getElem?_eq_getElem this]
    rfl
  have hmiss : ps.filter (fun n => (slots.lookup n).isNone) = [] := by
    rw [List.filter_eq_nil_iff]
    intro n hn
    rw [hlook n hn]
    exact Bool.false_ne_true
  have hfm : ps.filterMap (fun n => (slots.lookup n).map (n, ·)) = ps.zip (pm.map fun i => (us ++ ws).getD i .none) := fm_zip _ (by simp [hlen]) hval
  unfold bindArgs
  simp only [h1, h2, h3, h4, hd, ← hps, List.map_nil, List.nil_append, List.append_nil]
  rw [forIn_step (fun (x : Str × Value) (b : List (Str × Value) × List (Str × Value)) => (b.1 ++ [x], b.2)) (fun r b => (∀ k ∈ r.map (·.1), k ∈ ps ∧ k ∉ b.1.map (·.1)) ∧ (r.map (·.1)).Nodup) ?h (ks.zip ws) _ ?i, foldl_slots]
  case i =>
    rw [hzk]
    exact ⟨fun k h => ⟨hmem k h, hpos k h⟩, hk⟩
  case h =>
    intro a r b hb
    obtain ⟨hb1, hb2⟩ := hb
    simp only [List.map_cons, List.nodup_cons] at hb1 hb2
    obtain ⟨q1, q2⟩ := hb1 a.1 (by simp)
    have c1 : ps.contains a.1 = true := by simpa using q1
    refine ⟨?_, fun k hk => ?_, hb2.2⟩
    · rw [lookup_none_of q2, c1]
      simp
    · obtain ⟨z1, z2⟩ := hb1 k (by simp [hk])
      refine ⟨z1, ?_⟩
      simp only [List.map_append, List.map_cons, List.map_nil, List.mem_append, List.mem_singleton, not_or]
      refine ⟨z2, ?_⟩
      rintro rfl
      exact hb2.1 hk
  · rw [← hsl]
    have hle : ¬ ps.length < us.length := by omega
    have ha : notAStandIn Value.none = pure () := rfl
    simp [seqItems?, hmiss, hfm, hle, ha]
end MP
end

section
set_option linter.all false
set_option Elab.async false
set_option maxRecDepth 100000
set_option maxHeartbeats 4000000
namespace MP
/-- y answers as x wherever x answers -/
def Le {α : Type} (x y : MM α) : Prop := ∀ M, x M ≠ .bad → y M = x M
theorem Le.refl {α : Type} (x : MM α) : Le x x := fun _ _ => rfl
theorem Le.bad {α : Type} (y : MM α) : Le (MP.bad : MM α) y := fun _ h => absurd rfl h
theorem Le.bind {α β : Type} {x x' : MM α} {f f' : α → MM β} (h : Le x x') (k : ∀ a, Le (f a) (f' a)) : Le (MM.bind x f) (MM.bind x' f') := by
  intro M hb
  unfold MM.bind at hb ⊢
  cases q : x M with
  | ok a M1 =>
    rw [q] at hb
    rw [h M (by rw [q]; simp), q]
    exact k a M1 hb
  | exc c p M1 => rw [h M (by rw [q]; simp), q]
  | bad => rw [q] at hb; exact absurd rfl hb
theorem Le.noExc {α : Type} {x x' : MM α} (h : Le x x') : Le (noExc x) (noExc x') := by
  intro M hb
  unfold MP.noExc at hb ⊢
  cases q : x M with
  | ok a M1 => rw [h M (by rw [q]; simp), q]
  | exc c p M1 => rw [q] at hb; exact absurd rfl hb
  | bad => rw [q] at hb; exact absurd rfl hb
theorem Le.loop {α : Type} {f f' : D → α → MM α} (h : ∀ d a, Le (f d a) (f' d a)) : ∀ (l : List D) (a : α), Le (loopL f l a) (loopL f' l a)
  | [], a => Le.refl _
  | d :: l, a => Le.bind (h d a) fun a' => Le.loop h l a'
theorem Le.forL {f f' : D → Env → MM Fl} (h : ∀ d a, Le (f d a) (f' d a)) : ∀ (l : List D) (a : Env), Le (forL f l a) (forL f' l a)
  | [], a => Le.refl _
  | d :: l, a => Le.bind (h d a) fun r => by
    cases r with
    | nx e => exact Le.forL h l e
    | rt d o => exact Le.refl _
theorem Le.whileL {t t' : Env → MM (D × Bool)} {f f' : Env → MM Fl} (ht : ∀ e, Le (t e) (t' e)) (h : ∀ e, Le (f e) (f' e)) : ∀ (n : Nat) (e : Env), Le (whileL t f n e) (whileL t' f' n e)
  | 0, e => Le.refl _
  | n + 1, e => Le.bind (ht e) fun x => by
    obtain ⟨d, o⟩ := x
    cases d <;> first | exact Le.refl _ | skip
    rename_i b
    cases b
    · exact Le.refl _
    · exact Le.bind (h e) fun r => by
        cases r with
        | nx e => exact Le.whileL ht h n e
        | rt d o => exact Le.refl _
section
variable {F F' : Nat → List D → MM (D × Bool)} {G : Nat → Option D} {rp : D → Option (List Nat)} (hF : ∀ f ds, Le (F f ds) (F' f ds))
include hF
theorem cache_le (g cl mode : Nat) (x z : D) : Le (cacheM F g cl mode x z) (cacheM F' g cl mode x z) := by
  cases x <;> first | exact Le.refl _ | skip
  cases z <;> first | exact Le.refl _ | skip
  rename_i c l s
  unfold cacheM
  dsimp only
  split
  · intro M hb
    dsimp only at hb ⊢
    have h := hF g (if mode == 1 then [.ins c l] else [.ins c l, .str s]) []
    cases q : F g (if mode == 1 then [.ins c l] else [.ins c l, .str s]) [] with
    | ok r M1 => rw [h (by rw [q]; simp), q]
    | exc c p M1 => rw [q] at hb; exact absurd rfl hb
    | bad => rw [q] at hb; exact absurd rfl hb
  · exact Le.refl _
theorem cmp_le (o : COp) (x y : D) : Le (cmpM F o x y) (cmpM F' o x y) := by
  unfold cmpM
  split
  · exact Le.bind (Le.noExc (hF _ _)) fun r => Le.refl _
  · exact Le.refl _
mutual
theorem den_le : ∀ (c : C) (e : Env), Le (den ⟨F, G, rp⟩ c e) (den ⟨F', G, rp⟩ c e)
  | .non, e | .bl _, e | .int _, e | .str _, e | .var _, e | .bvar _, e | .glob _, e | .cls _, e => Le.refl _
  | .bin o a b, e => Le.bind (den_le a e) fun x => Le.bind (den_le b e) fun y => Le.refl _
  | .neg a, e => Le.bind (den_le a e) fun x => Le.refl _
  | .not a, e => Le.bind (den_le a e) fun x => Le.refl _
  | .and a b, e => Le.bind (den_le a e) fun x => by
    obtain ⟨d, o⟩ := x
    cases d <;> first | exact Le.refl _ | skip
    rename_i t; cases t
    · exact Le.refl _
    · exact Le.bind (den_le b e) fun y => Le.refl _
  | .or a b, e => Le.bind (den_le a e) fun x => by
    obtain ⟨d, o⟩ := x
    cases d <;> first | exact Le.refl _ | skip
    rename_i t; cases t
    · exact Le.bind (den_le b e) fun y => Le.refl _
    · exact Le.refl _
  | .cmp o a b, e => Le.bind (den_le a e) fun x => Le.bind (den_le b e) fun y => cmp_le hF o x.1 y.1
  | .chain o p a b c, e => Le.bind (den_le a e) fun x => Le.bind (den_le b e) fun y => by
    split
    · exact Le.bind (den_le c e) fun z => Le.refl _
    · exact Le.refl _
    · exact Le.refl _
  | .ite t a b, e => Le.bind (den_le t e) fun x => by
    obtain ⟨d, o⟩ := x
    cases d <;> first | exact Le.refl _ | skip
    rename_i t; cases t
    · exact den_le b e
    · exact den_le a e
  | .tup es, e => Le.bind (denL_le es e) fun x => Le.refl _
  | .lst es, e => Le.bind (denL_le es e) fun x => Le.refl _
  | .dct es, e => Le.bind (denL_le es e) fun x => Le.refl _
  | .mkmut es, e => Le.bind (denL_le es e) fun x => Le.refl _
  | .idx a i, e => Le.bind (den_le a e) fun x => Le.bind (den_le i e) fun y => Le.refl _
  | .slc a lo hi, e => Le.bind (den_le a e) fun x => Le.bind (den_le lo e) fun y => by
    split
    · exact Le.bind (den_le hi e) fun z => Le.refl _
    · exact Le.refl _
  | .rev a, e => Le.bind (den_le a e) fun x => Le.refl _
  | .lc el t k as cond own, e => Le.bind (denL_le as e) fun ds => by
    split
    · exact Le.refl _
    · refine Le.bind (Le.noExc (Le.loop (fun d a => ?_) _ _)) fun acc => Le.refl _
      split
      · exact Le.refl _
      · exact Le.bind (denT_le cond _) fun b => by
          cases b
          · exact Le.refl _
          · exact Le.bind (den_le el _) fun y => Le.refl _
  | .lc2 el t k as cond t1 k1 as1 cond1 own own1, e => Le.bind (denL_le as e) fun ds => by
    split
    · exact Le.refl _
    · refine Le.bind (Le.noExc (Le.loop (fun d a => ?_) _ _)) fun acc => Le.refl _
      split
      · exact Le.refl _
      · exact Le.bind (denT_le cond _) fun b => by
          cases b
          · exact Le.refl _
          · refine Le.bind (denL_le as1 _) fun ds1 => ?_
            split
            · exact Le.refl _
            · refine Le.loop (fun d a => ?_) _ _
              split
              · exact Le.refl _
              · exact Le.bind (denT_le cond1 _) fun b => by
                  cases b
                  · exact Le.refl _
                  · exact Le.bind (den_le el _) fun y => Le.refl _
  | .call f es, e => Le.bind (denL_le es e) fun ds => hF f ds
  | .callp f es pm, e => Le.bind (denL_le es e) fun ds => by
    split
    · exact hF f _
    · exact Le.refl _
  | .bi f es, e => Le.bind (denL_le es e) fun ds => Le.refl _
  | .isi a t, e => Le.bind (den_le a e) fun ds => Le.refl _
  | .mth m r es, e => Le.bind (den_le r e) fun x => by
    by_cases h : rcv m x.1 = true
    · rw [if_pos h, if_pos h]; exact Le.bind (denL_le es e) fun ds => Le.refl _
    · rw [if_neg h, if_neg h]; exact Le.refl _
  | .attr f a, e => Le.bind (den_le a e) fun x => by
    obtain ⟨d, o⟩ := x
    cases d <;> first | exact Le.refl _ | skip
    rename_i c ds
    dsimp only
    cases fieldIx c f with
    | some i => exact Le.refl _
    | none =>
      dsimp only
      cases methNo c f with
      | some n => exact Le.noExc (hF _ _)
      | none => exact Le.refl _
  | .meth m a es pm, e => Le.bind (den_le a e) fun x => by
    obtain ⟨d, o⟩ := x
    cases d <;> first | exact Le.refl _ | skip
    rename_i c ds
    dsimp only
    cases methNo c m with
    | some n =>
      refine Le.bind (denL_le es e) fun vs => ?_
      cases mapO (fun i => vs[i]?) pm with
      | some vs' => exact hF _ _
      | none => exact Le.refl _
    | none => exact Le.refl _
  | .mkc c f a, e => Le.bind (den_le a e) fun x => Le.bind (hF _ _) fun _ => Le.refl _
  | .cache g cl mode o k, e => Le.bind (den_le o e) fun x => Le.bind (den_le k e) fun z => cache_le hF g cl mode x.1 z.1
theorem denL_le : ∀ (c : List C) (e : Env), Le (denL ⟨F, G, rp⟩ c e) (denL ⟨F', G, rp⟩ c e)
  | [], e => Le.refl _
  | c :: cs, e => Le.bind (den_le c e) fun x => Le.bind (denL_le cs e) fun xs => Le.refl _
theorem denT_le : ∀ (c : List C) (e : Env), Le (denT ⟨F, G, rp⟩ c e) (denT ⟨F', G, rp⟩ c e)
  | [], e => Le.refl _
  | c :: cs, e => Le.bind (den_le c e) fun x => by
    obtain ⟨d, o⟩ := x
    cases d <;> first | exact Le.refl _ | skip
    rename_i t; cases t
    · exact Le.refl _
    · exact denT_le cs e
end
theorem denO_le : ∀ (c : List C) (e : Env), Le (denO ⟨F, G, rp⟩ c e) (denO ⟨F', G, rp⟩ c e)
  | [], e => Le.refl _
  | c :: cs, e => Le.bind (den_le hF c e) fun x => Le.bind (denO_le cs e) fun xs => Le.refl _
mutual
theorem asg_le : ∀ (t : Tg) (d : D) (e : Env), Le (asgG ⟨F, G, rp⟩ t d e) (asgG ⟨F', G, rp⟩ t d e)
  | .name i, d, e => Le.refl _
  | .sub i k, d, e => by
    unfold asgG
    split
    · exact Le.bind (den_le hF k e) fun y => Le.refl _
    · exact Le.refl _
  | .msub a k, d, e => Le.bind (den_le hF a e) fun x => by
    obtain ⟨x, o⟩ := x
    cases x <;> first | exact Le.refl _ | exact Le.bind (den_le hF k e) fun y => Le.refl _
  | .tup l, d, e => by
    cases d <;> first | exact Le.refl _ | skip
    all_goals
      rename_i ds
      show Le (if l.length = ds.length then asgGs ⟨F, G, rp⟩ l ds e else MP.bad) (if l.length = ds.length then asgGs ⟨F', G, rp⟩ l ds e else MP.bad)
      by_cases h : l.length = ds.length
      · rw [if_pos h, if_pos h]; exact asgs_le l _ e
      · rw [if_neg h, if_neg h]; exact Le.refl _
theorem asgs_le : ∀ (t : List Tg) (d : List D) (e : Env), Le (asgGs ⟨F, G, rp⟩ t d e) (asgGs ⟨F', G, rp⟩ t d e)
  | [], [], e => Le.refl _
  | [], _ :: _, e => Le.refl _
  | _ :: _, [], e => Le.refl _
  | t :: ts, d :: ds, e => Le.bind (asg_le t d e) fun e' => asgs_le ts ds e'
end
mutual
theorem s_le : ∀ (s : S) (e : Env), Le (denS ⟨F, G, rp⟩ s e) (denS ⟨F', G, rp⟩ s e)
  | .set i k c, e => Le.bind (den_le hF c e) fun x => Le.refl _
  | .share i, e => Le.refl _
  | .asg t c, e => Le.bind (den_le hF c e) fun x => Le.bind (asg_le hF t _ e) fun e' => Le.refl _
  | .par l cs, e => Le.bind (denO_le hF cs e) fun xs => Le.refl _
  | .append i c, e => by
    unfold denS
    split
    · exact Le.bind (den_le hF c e) fun y => Le.refl _
    · exact Le.refl _
  | .insert i k c, e => by
    unfold denS
    split
    · exact Le.bind (den_le hF k e) fun y => Le.bind (den_le hF c e) fun y => Le.refl _
    · exact Le.refl _
  | .extend i c, e => by
    unfold denS
    split
    · exact Le.bind (den_le hF c e) fun y => Le.refl _
    · exact Le.refl _
  | .appPop i j k, e => by
    unfold denS
    split
    · split
      · exact Le.bind (den_le hF k e) fun y => Le.refl _
      · exact Le.refl _
    · exact Le.refl _
  | .setPop i j k, e => by
    unfold denS
    split
    · split
      · exact Le.bind (den_le hF k e) fun y => Le.refl _
      · exact Le.refl _
    · exact Le.refl _
  | .aug i o c, e => by
    unfold denS
    split
    · exact Le.bind (den_le hF c e) fun y => Le.refl _
    · exact Le.refl _
  | .augSub i k o c, e => by
    unfold denS
    split
    · refine Le.bind (den_le hF k e) fun y => ?_
      split
      · exact Le.bind (den_le hF c e) fun y => Le.refl _
      · exact Le.refl _
    · exact Le.refl _
  | .for_ t k as b, e => Le.bind (denL_le hF as e) fun ds => by
    split
    · exact Le.refl _
    · refine Le.forL (fun d e => ?_) _ _
      split
      · exact ss_le b _
      · exact Le.refl _
  | .while_ c b, e => Le.whileL (fun e => den_le hF c e) (fun e => ss_le b e) _ e
  | .ite c a b, e => Le.bind (den_le hF c e) fun x => by
    obtain ⟨d, o⟩ := x
    cases d <;> first | exact Le.refl _ | skip
    rename_i t; cases t
    · exact ss_le b e
    · exact ss_le a e
  | .ret c, e => Le.bind (den_le hF c e) fun x => Le.refl _
  | .retO i, e => Le.refl _
  | .retN, e => Le.refl _
  | .expr c, e => Le.bind (den_le hF c e) fun x => Le.refl _
  | .pass, e => Le.refl _
  | .move i j, e => Le.refl _
  | .raise c es, e => Le.refl _
theorem ss_le : ∀ (s : List S) (e : Env), Le (denSs ⟨F, G, rp⟩ s e) (denSs ⟨F', G, rp⟩ s e)
  | [], e => Le.refl _
  | s :: ss, e => Le.bind (s_le s e) fun r => by
    cases r with
    | nx e => exact ss_le ss e
    | rt d o => exact Le.refl _
end
theorem fn_le (f : Fn) (ds : List D) : Le (fnRun ⟨F, G, rp⟩ f ds) (fnRun ⟨F', G, rp⟩ f ds) := by
  unfold fnRun
  split
  · exact Le.bind (ss_le hF f.body _) fun r => Le.refl _
  · exact Le.refl _
end
/-- a def's answer by those of the defs that it calls -/
theorem run_step {P : Pg} {k f : Nat} {fn : Fn} {F : Nat → List D → MM (D × Bool)} (hf : P.fns.lookup f = some fn) (hF : ∀ g ds, Le (F g ds) (run P k g ds)) (ds : List D) : Le (fnRun ⟨F, fun x => P.consts.lookup x, P.rp⟩ fn ds) (run P (k + 1) f ds) := by
  have e : run P (k + 1) f ds = fnRun ⟨run P k, fun x => P.consts.lookup x, P.rp⟩ fn ds := by simp only [run, hf]
  rw [e]
  exact fn_le hF fn ds
theorem run_succ (P : Pg) : ∀ (k f : Nat) (ds : List D), Le (run P k f ds) (run P (k + 1) f ds)
  | 0, f, ds => Le.bad _
  | k + 1, f, ds => by
    cases h : P.fns.lookup f with
    | none =>
      have e : run P (k + 1) f ds = bad := by simp only [run, h]
      rw [e]; exact Le.bad _
    | some fn =>
      have e : run P (k + 1) f ds = fnRun ⟨run P k, fun x => P.consts.lookup x, P.rp⟩ fn ds := by simp only [run, h]
      rw [e]
      exact run_step h (fun g ds => run_succ P k g ds) ds
theorem Le.trans {α : Type} {x y z : MM α} (h : Le x y) (h' : Le y z) : Le x z := fun M hb => by
  have e := h M hb
  rw [h' M (by rw [e]; exact hb), e]
theorem run_mono (P : Pg) {k k' : Nat} (h : k ≤ k') (f : Nat) (ds : List D) : Le (run P k f ds) (run P k' f ds) := by
  induction h with
  | refl => exact Le.refl _
  | step _ ih => exact Le.trans ih (run_succ P _ f ds)
theorem run_at {P : Pg} {k k' f : Nat} {ds : List D} {r : D × Bool} {M M' : Mem} (h : k ≤ k') (e : run P k f ds M = .ok r M') : run P k' f ds M = .ok r M' := by
  rw [run_mono P h f ds M (by rw [e]; simp), e]
end MP
end

section
set_option linter.all false
set_option Elab.async false
set_option maxRecDepth 100000
set_option maxHeartbeats 8000000
namespace MP
open PySem PySem.Spec PyProof.Rows L2
/-! what is looked for once: a def that looks into an object's cache -/
def Jt.fg (J : Jt) : Jt := ⟨J.I, [], J.C⟩
mutual
theorem Rep.fg {K : PySem.W.Frag} {w : World} {J : Jt} : ∀ {d : D} {v : V}, Rep K w J v d → noMt d = true → Rep K w J.fg v d
  | .non, _, h, _ => by cases h; exact .non
  | .bl _, _, h, _ => by cases h; exact .bl _
  | .int _, _, h, _ => by cases h; exact .int _
  | .str _, _, h, _ => by cases h; exact .str _ (by assumption) (by assumption)
  | .tup ds, _, h, n => by cases h with | tup h r => exact .tup h (RepL.fg r n)
  | .unp ds, _, h, n => by cases h with | unp h r => exact .unp h (RepL.fg r n)
  | .lst ds, _, h, n => by cases h with | lst h r => exact .lst h (RepL.fg r n)
  | .dct ks vs, _, h, n => by cases h with | dct h nd hk r => exact .dct h nd hk (RepL.fg r n)
  | .mtb _, _, h, n => by simp [noMt] at n
  | .scr _, _, h, _ => by cases h with | scr h => exact .scr h
  | .ins _ _, _, h, n => by cases h with | ins hc hn h hl hs r => exact .ins hc hn h hl hs (RepL.fg r n)
  | .cls _, _, h, _ => by cases h with | cls h1 h2 => exact .cls h1 h2
  | .err _ _, _, h, _ => nomatch h
  | .lam _ _, _, h, _ => nomatch h
theorem RepL.fg {K : PySem.W.Frag} {w : World} {J : Jt} : ∀ {ds : List D} {vs : List V}, RepL K w J vs ds → noMts ds = true → RepL K w J.fg vs ds
  | [], _, h, _ => by cases h; exact .nil
  | d :: ds, _, h, n => by
    simp only [noMts, Bool.and_eq_true] at n
    cases h with | cons h t => exact .cons (Rep.fg h n.1) (RepL.fg t n.2)
end
section
variable {K : PySem.W.Frag} {w : World} {J J1 : Jt} {M : Mem} {H H1 : Hp}
theorem Hold.fg (h : Hold K w J M H) : Hold K w J.fg [] H :=
  ⟨h.I, rfl, fun n mo hm => by simp at hm, List.nodup_nil, fun s d hs => by
    obtain ⟨kvs, q1, q2, q3, q4⟩ := h.c s d hs
    refine ⟨kvs, q1, q2, by simp [Jt.fg], q4.nd, fun kv hk => ?_⟩
    obtain ⟨z, r, e1, e2, e3, e4, e5⟩ := q4.all kv hk
    exact ⟨z, r, e1, e2, e3, e4, e5.fg e4⟩⟩
/-- the lists that others change stand as before -/
theorem back_fg (hd : Hold K w J M H) (g : Go J.fg H J1 H1) (hd1 : Hold K w J1 [] H1) :
    Go J H ⟨J1.I, J.ρ, J1.C⟩ H1 ∧ Hold K w ⟨J1.I, J.ρ, J1.C⟩ M H1 ∧ Ext J1 ⟨J1.I, J.ρ, J1.C⟩ := by
  have hr : J1.ρ = [] := List.length_eq_zero_iff.mp hd1.len.symm
  have ex : Ext J1 ⟨J1.I, J.ρ, J1.C⟩ := ⟨fun _ _ h => h, fun n a h => by rw [hr] at h; simp at h, fun _ _ h => h⟩
  have ex0 : Ext J ⟨J1.I, J.ρ, J1.C⟩ := ⟨g.ext.I, fun _ _ h => h, g.ext.C⟩
  have isC : ∀ {a : Addr}, a ∈ J.ρ → J.C a = none := fun {a} ha => by
    cases e : J.C a with
    | none => rfl
    | some d =>
      obtain ⟨_, _, _, q, _⟩ := hd.c a d e
      exact absurd ha q
  refine ⟨⟨ex0, fun a o h => g.newI a o h, fun a h => .inl h, fun a d h => g.newC a d h, fun a o h hf => g.keep a o h ⟨by simp [Jt.fg], hf.2⟩, g.keepR⟩, ⟨hd1.I, hd.len, fun n mo hm => ?_, hd.nd, fun s d hs => ?_⟩, ex⟩
  · obtain ⟨a, o, h1, h2, h3, h4⟩ := hd.m n mo hm
    have ha := List.mem_of_getElem? h1
    refine ⟨a, o, h1, g.keep a o h2 ⟨by simp [Jt.fg], isC ha⟩, ?_, h4.ext ex0⟩
    cases e : J1.I a with
    | none => rfl
    | some u =>
      rcases g.newI a u e with z | z
      · have z : J.I a = some u := z
        rw [h3] at z; cases z
      · rw [h2] at z; cases z
  · obtain ⟨kvs, q1, q2, q3, q4⟩ := hd1.c s d hs
    refine ⟨kvs, q1, q2, fun hm => ?_, q4.ext ex⟩
    rcases g.newC s d hs with z | z
    · have z : J.C s = some d := z
      rw [isC hm] at z; cases z
    · obtain ⟨o, e, _⟩ := hd.rho hm
      rw [e] at z; cases z
end
theorem putK_mem {kvs : List (Key × V)} {k : Key} {v : V} {p : Key × V} (h : p ∈ putK kvs k v) : p ∈ kvs ∨ p = (k, v) := by
  unfold putK at h
  split at h
  · obtain ⟨q, hq, e⟩ := List.mem_map.mp h
    split at e
    · rename_i hk; exact .inr (by rw [← e, hk])
    · exact .inl (e ▸ hq)
  · rcases List.mem_append.mp h with h | h
    · exact .inl h
    · exact .inr (by simpa using h)
theorem putK_nd {v : V} (k : Key) {kvs : List (Key × V)} (nd : (kvs.map (·.1)).Nodup) : ((putK kvs k v).map (·.1)).Nodup := by
  unfold putK
  split
  · have e : (kvs.map fun kv => if kv.1 = k then (kv.1, v) else kv).map (·.1) = kvs.map (·.1) := by
      rw [List.map_map]
      apply List.map_congr_left
      intro p _
      show (if p.1 = k then (p.1, v) else p).1 = p.1
      split <;> rfl
    rw [e]; exact nd
  · rename_i h
    rw [List.map_append, List.nodup_append]
    refine ⟨nd, by simp, fun a ha b hb => ?_⟩
    have : b = k := by simpa using hb
    subst this
    rintro rfl
    exact h (putK_any.mpr ha)
theorem len_le_of_sub {α : Type} [DecidableEq α] : ∀ {l m : List α}, l.Nodup → (∀ x ∈ l, x ∈ m) → l.length ≤ m.length
  | [], _, _, _ => Nat.zero_le _
  | a :: l, m, nd, h => by
    have ha := h a (by simp)
    have nd' := List.nodup_cons.mp nd
    have := len_le_of_sub (l := l) (m := m.erase a) nd'.2 fun x hx => (List.mem_erase_of_ne (by rintro rfl; exact nd'.1 hx)).mpr (h x (by simp [hx]))
    rw [List.length_erase_of_mem ha] at this
    have : 0 < m.length := List.length_pos_of_mem ha
    simp only [List.length_cons]
    omega
theorem CacheOk.small {K : PySem.W.Frag} {w : World} {J : Jt} {kvs : List (Key × V)} {d : D} (h : CacheOk K w J kvs d) : kvs.length ≤ 27 := by
  have := len_le_of_sub (m := cacheKeys.map fun z => (Sum.inr (sOf z) : Key)) h.nd fun x hx => by
    obtain ⟨p, hp, rfl⟩ := List.mem_map.mp hx
    obtain ⟨z, r, e1, e2, _⟩ := h.all p hp
    rw [e1]
    exact List.mem_map.mpr ⟨z, e2, rfl⟩
  rw [List.length_map, List.length_map] at this
  exact this
theorem valV_mem : ∀ {kvs : List (Key × V)} {k : Key} {v : V}, valV kvs k = some v → (k, v) ∈ kvs
  | [], _, _, h => by simp [valV] at h
  | p :: kvs, k, v, h => by
    by_cases e : p.1 = k
    · rw [valV_pos e] at h
      cases h
      exact List.mem_cons.mpr (.inl (by rw [← e]))
    · rw [valV_neg e] at h
      exact List.mem_cons_of_mem _ (valV_mem h)
theorem valV_put (kvs : List (Key × V)) (k : Key) (v : V) : (kvs.map (·.1)).Nodup → valV (putK kvs k v) k = some v := by
  intro nd
  have hm : (k, v) ∈ putK kvs k v := by
    unfold putK
    split
    · rename_i h
      obtain ⟨p, hp, e⟩ := List.any_eq_true.mp h
      have e : p.1 = k := of_decide_eq_true e
      exact List.mem_map.mpr ⟨p, hp, by rw [if_pos e, e]⟩
    · simp
  have nd2 := putK_nd (v := v) k nd
  have : ∀ {l : List (Key × V)}, (l.map (·.1)).Nodup → (k, v) ∈ l → valV l k = some v := by
    intro l
    induction l with
    | nil => intro _ h; cases h
    | cons p l ih =>
      intro nd h
      simp only [List.map_cons, List.nodup_cons] at nd
      rcases List.mem_cons.mp h with rfl | h
      · exact valV_pos rfl
      · have : ¬ p.1 = k := fun e => nd.1 (e ▸ List.mem_map.mpr ⟨_, h, rfl⟩)
        rw [valV_neg this]
        exact ih nd.2 h
  exact this nd2 hm
/-- a cache is stored into -/
theorem cache_put {K : PySem.W.Frag} {w : World} {J : Jt} {M : Mem} {H : Hp} {s : Addr} {d r : D} {kvs : List (Key × V)} {z : List Nat} {v : V} (hd : Hold K w J M H) (hs : J.C s = some d) (hk : H s = some (.dK kvs)) (hz : z ∈ cacheKeys) (hc : CFK K d z r) (hn : noMt r = true) (rv : Rep K w J v r) :
    Go J H J (upd H s (.dK (putK kvs (.inr (sOf z)) v))) ∧ Hold K w J M (upd H s (.dK (putK kvs (.inr (sOf z)) v))) := by
  obtain ⟨kvs', q1, q2, q3, q4⟩ := hd.c s d hs
  rw [hk] at q1
  cases q1
  refine ⟨⟨.refl J, fun _ _ h => .inl h, fun _ h => .inl h, fun _ _ h => .inl h, fun a o h hf => ?_, fun a h => ?_⟩, ⟨fun a o h => ?_, hd.len, fun n mo hm => ?_, hd.nd, fun s' d' hs' => ?_⟩⟩
  · rw [upd_ne (by rintro rfl; rw [hf.2] at hs; cases hs)]; exact h
  · by_cases e : a = s
    · subst e; rw [upd_same]; rfl
    · rw [upd_ne e]; exact h
  · rw [upd_ne (by rintro rfl; rw [q2] at h; cases h)]; exact hd.I a o h
  · obtain ⟨a, o, h1, h2, h3, h4⟩ := hd.m n mo hm
    exact ⟨a, o, h1, by rw [upd_ne (by rintro rfl; exact q3 (List.mem_of_getElem? h1))]; exact h2, h3, h4⟩
  · by_cases e : s' = s
    · subst e
      rw [hs] at hs'; cases hs'
      refine ⟨_, upd_same, q2, q3, putK_nd _ q4.nd, fun kv hkv => ?_⟩
      rcases putK_mem hkv with h | rfl
      · exact q4.all kv h
      · exact ⟨z, r, rfl, hz, hc, hn, rv⟩
    · obtain ⟨kvs', p1, p2, p3, p4⟩ := hd.c s' d' hs'
      exact ⟨kvs', by rw [upd_ne e]; exact p1, p2, p3, p4⟩
end MP
end

section
set_option linter.all false
set_option Elab.async false
set_option maxRecDepth 100000
set_option maxHeartbeats 8000000
namespace MP
open PySem PySem.Spec PyProof.Rows L2
section
variable {Y : Ctx}
theorem cache_run2 {g cl mode : Nat} {d z : D} {M : Mem} : fnRun Y ⟨2, 2, [.ret (.cache g cl mode (.var 0) (.var 1))], 0⟩ [d, z] M = cacheM Y.F g cl mode d z M := by
  cases q : cacheM Y.F g cl mode d z M <;> simp [fnRun, denSs, denS, den, MM.bind, MM.pure, q]
theorem cache_run1 {g cl mode : Nat} {d : D} {zs : List Nat} {M : Mem} : fnRun Y ⟨1, 1, [.ret (.cache g cl mode (.var 0) (.str zs))], 0⟩ [d] M = cacheM Y.F g cl mode d (.str zs) M := by
  cases q : cacheM Y.F g cl mode d (.str zs) M <;> simp [fnRun, denSs, denS, den, MM.bind, MM.pure, q]
theorem cacheM_ok {F : Nat → List D → MM (D × Bool)} {g cl mode : Nat} {d z : D} {M : Mem} (h : cacheM F g cl mode d z M ≠ .bad) : ∃ l s r, d = .ins cl l ∧ z = .str s ∧ s ∈ cacheKeys ∧ modeOk mode s = true ∧ noMts l = true ∧ noMt r = true ∧
    F g (if mode == 1 then [.ins cl l] else [.ins cl l, .str s]) [] = .ok (r, false) [] ∧ cacheM F g cl mode d z M = .ok (r, false) M := by
  cases d <;> first | exact absurd rfl h | skip
  cases z <;> first | exact absurd rfl h | skip
  rename_i c l s
  unfold cacheM at h ⊢
  dsimp only at h ⊢
  split at h
  · rename_i hc
    rw [if_pos hc]
    simp only [Bool.and_eq_true] at hc
    obtain ⟨c1, c2, c3, c4⟩ := hc
    have c1 := eq_of_beq c1
    subst c1
    refine ⟨l, s, ?_⟩
    dsimp only at h ⊢
    cases q : F g (if mode == 1 then [.ins c l] else [.ins c l, .str s]) [] with
    | ok x M1 =>
      obtain ⟨r, o⟩ := x
      rw [q] at h
      cases o with
      | true => exact absurd rfl h
      | false =>
        cases M1 with
        | cons _ _ => exact absurd rfl h
        | nil =>
          dsimp only at h ⊢
          split at h
          · rename_i hr
            rw [if_pos hr]
            exact ⟨r, rfl, rfl, List.contains_iff_mem.mp c2, c3, c4, hr, rfl, rfl⟩
          · exact absurd rfl h
    | exc c p M1 => rw [q] at h; exact absurd rfl h
    | bad => rw [q] at h; exact absurd rfl h
  · exact absurd rfl h
end
/-- a key's expression gives the key -/
def tKey (σ0 : L2.St) (z : Str) : TE := fun σ H Q => σ = σ0 ∧ Q (.str z) H
section
variable {S : Cs} {Y : Ctx} {ER : ExR} {k : Nat} {W : WX} {X : Cx}
theorem key_name {σ0 : L2.St} {z t : Str} {p : Pos} {i : Nat} (hN : X.N[i]? = some t) (hv : Vis X.env.scope t) (hd : (t == ("__debug__" : Str)) = false) (hc : (t == ("__classdict__" : Str)) = false) (hz : σ0[i]? = some (some (.str z))) : PE X (.Name t p) (tKey σ0 z) :=
  PE.imp (pe_var hN hv hd hc) fun σ H Q ⟨e, q⟩ => by subst e; exact ⟨_, hz, q⟩
theorem key_const {σ0 : L2.St} {z : Str} {j : Nat} {p : Pos} : PE X (.Constant (.str z) j p) (tKey σ0 z) := PE.imp pe_str fun σ H Q ⟨e, q⟩ => q
/-- the body: "if k not in o.seen: o.seen[k] = g(..)", "return o.seen[k]" -/
theorem cache_body {o : Str} {k1 k2 k3 callE : Expr} {p1 p2 p3 p4 p5 p6 p7 p8 p9 p10 p11 p12 : Pos} {cc : C} {cl : Nat} {l : List D} {r : D} {zs : List Nat} {J : Jt} {M : Mem} {H : Hp} {σ0 : L2.St} {e : MP.Env} {v : V} {Q : VK} (ok : XOk S Y ER k W X)
    (hN : X.N[0]? = some o) (hv : Vis X.env.scope o) (hdb : (o == ("__debug__" : Str)) = false) (hcd : (o == ("__classdict__" : Str)) = false)
    (hk1 : PE X k1 (tKey σ0 (sOf zs))) (hk2 : PE X k2 (tKey σ0 (sOf zs))) (hk3 : PE X k3 (tKey σ0 (sOf zs))) (s2 : NoSl k2) (s3 : NoSl k3) (hcall : PE X callE (rdE Y ER W X cc)) (hsw : ∀ t n, swapsWith callE (some t) n X.env = pure false)
    (hd : Hold X.K X.w J M H) (h0 : σ0[0]? = some (some v)) (rv : Rep X.K X.w J v (.ins cl l)) (hz : zs ∈ cacheKeys) (hr : noMt r = true) (sl : Slots X.K X.w J.fg H σ0 e) (hden : den Y cc e [] = .ok (r, false) [])
    (hcf : CFK X.K (.ins cl l) zs r) (hdet : ∀ r', CFK X.K (.ins cl l) zs r' → r' = r) (hQ : ∀ v H' J', Go J H J' H' → Hold X.K X.w J' M H' → Rep X.K X.w J' v r → Q v H') :
    ∃ t, PSs X [.If (.Compare k1 [.NotIn] [.Attribute (.Name o p1) "seen" p2] p3) [.Assign [.Subscript (.Attribute (.Name o p4) "seen" p5) k2 p6] callE p7] [] p8, .Return (some (.Subscript (.Attribute (.Name o p9) "seen" p10) k3 p11)) p12] t ∧
      ∀ Nx, t { nx := Nx, rt := Q } σ0 H := by
  obtain ⟨a, C, dx, sd, nm, fn, vs, rfl, i⟩ := rv.insR
  have F := clsB_ok (ok.G.cls cl) i.hc i.at_
  have hu : X.A.units + 1 < cLine := by have := ok.room.un; omega
  -- the field
  have fld : ∀ {pa pb : Pos}, PE X (.Attribute (.Name o pa) "seen" pb) (fun σ H Q => σ = σ0 ∧ H a = some (.ins C dx ((fn ++ [("seen" : Str)]).zip (vs ++ [.ref sd]))) ∧ Q (.ref sd) H) := by
    intro pa pb
    refine PE.imp (pe_fld (pe_var hN hv hdb hcd) rfl) fun σ H Q ⟨e, ha, q⟩ => ?_
    subst e
    refine ⟨_, h0, a, C, dx, _, .ref sd, rfl, ha, F.cls, F.na _ (List.mem_append_right _ (by simp)), ?_, q⟩
    have nf : ∀ {fs : List Str} {us : List V}, ("seen" : Str) ∉ fs → us.length = fs.length → ((fs ++ [("seen" : Str)]).zip (us ++ [V.ref sd])).lookup ("seen" : Str) = some (.ref sd) := by
      intro fs
      induction fs with
      | nil => intro us _ hl; cases us with
        | nil => simp [List.lookup]
        | cons _ _ => simp at hl
      | cons g fs ih =>
        intro us hn hl
        cases us with
        | nil => simp at hl
        | cons u us =>
          have hne : (("seen" : Str) == g) = false := by
            have : ("seen" : Str) ≠ g := fun e => hn (by simp [e])
            simpa using this
          simp only [List.cons_append, List.zip_cons_cons, List.lookup, hne]
          exact ih (fun h => hn (by simp [h])) (by simpa using hl)
    refine nf ?_ i.hl
    have : ∀ p ∈ clsTab, ("seen" : Str) ∉ p.2.1 := by decide +kernel
    exact this _ (List.mem_of_getElem? i.hc)
  obtain ⟨kvs, hs1, hs2, hs3, hs4⟩ := hd.c sd _ i.hs
  refine ⟨_, pss_cons (ps_if (pt_cmp (pc_dnotin hu hk1 fld) rfl) (pss_one (ps_dput hu fld hk2 hcall (hsw _ _))) pss_nil) (pss_one (ps_ret (pe_dget hu fld hk3 s3))), fun Nx => ?_⟩
  refine ⟨rfl, rfl, hd.I _ _ i.h, sd, valV kvs (.inr (sOf zs)), rfl, DGet.k (k := .inr (sOf zs)) hs1, _, rfl, ?_⟩
  cases hv : valV kvs (.inr (sOf zs)) with
  | some u =>
    refine ⟨rfl, hd.I _ _ i.h, rfl, sd, u, rfl, by rw [← hv]; exact DGet.k (k := .inr (sOf zs)) hs1, ?_⟩
    obtain ⟨z', r', e1, e2, e3, e4, e5⟩ := hs4.all _ (valV_mem hv)
    have : z' = zs := sOf_inj (Sum.inr.inj e1).symm
    subst this
    have := hdet r' e3
    subst this
    exact hQ u H J (.refl _ _) hd e5
  | none =>
    show rdE Y ER W X cc σ0 H _
    refine ⟨J.fg, [], e, hd.fg, sl, ?_⟩
    rw [hden]
    intro J1 H1 g1 hd1 u ru
    obtain ⟨g2, hd2, ex⟩ := back_fg hd g1 hd1
    have ru2 : Rep X.K X.w ⟨J1.I, J.ρ, J1.C⟩ u r := ru.ext ex
    have hs2' : J1.C sd = some (.ins cl l) := g1.ext.C _ _ i.hs
    obtain ⟨kvs1, t1, t2, t3, t4⟩ := hd2.c sd _ hs2'
    have hi1 : H1 a = some (.ins C dx ((fn ++ [("seen" : Str)]).zip (vs ++ [.ref sd]))) := hd2.I _ _ (g2.ext.I _ _ i.h)
    obtain ⟨g3, hd3⟩ := cache_put hd2 hs2' t1 hz hcf hr ru2
    refine ⟨rfl, hi1, rfl, sd, _, rfl, DPut.k (k := .inr (sOf zs)) t1 (by have := t4.small; rw [sizeLine_eq]; omega), ?_⟩
    refine ⟨rfl, ?_, rfl, sd, u, rfl, ?_, hQ u _ _ (g2.trans g3) hd3 ru2⟩
    · exact hd3.I _ _ (g2.ext.I _ _ i.h)
    · have := DGet.k (k := .inr (sOf zs)) (upd_same (H := H1) (a := sd) (o := .dK (putK kvs1 (.inr (sOf zs)) u)))
      rw [valV_put _ _ _ t4.nd] at this
      exact this
end
end MP
end

section
set_option linter.all false
set_option Elab.async false
set_option maxRecDepth 100000
set_option maxHeartbeats 8000000
namespace MP
open PySem PySem.Spec PyProof.Rows L2
theorem isNm_eq {x : Str} {e : Expr} (h : isNm x e = true) : ∃ p, e = .Name x p := by
  unfold isNm at h
  split at h
  · rename_i y p; exact ⟨p, by rw [eq_of_beq h]⟩
  · cases h
theorem isKst_eq {x : Str} {e : Expr} (h : isKst x e = true) : ∃ j p, e = .Constant (.str x) j p := by
  unfold isKst at h
  split at h
  · rename_i y j p; exact ⟨j, p, by rw [eq_of_beq h]⟩
  · cases h
section
variable {S : Cs} {Y : Ctx} {ER : ExR} {k : Nat} {W : WX} {X : Cx}
theorem e_var {x : Str} {i : Nat} {pos : Pos} (h1 : X.N[i]? = some x) (h2 : Vis X.env.scope x) (hdb : (x == ("__debug__" : Str)) = false) (hcd : (x == ("__classdict__" : Str)) = false) : PE X (.Name x pos) (rdE Y ER W X (.var i)) := by
  refine PE.imp (pe_var h1 h2 hdb hcd) fun σ H Q h => ?_
  obtain ⟨J, M, e, hd, sl, h⟩ := h
  simp only [den] at h
  cases he : e[i]? with
  | none => rw [he] at h; exact h.elim
  | some o =>
    cases o with
    | none => rw [he] at h; exact h.elim
    | some p =>
      obtain ⟨d, own⟩ := p
      cases own with
      | true => rw [he] at h; exact h.elim
      | false =>
        rw [he] at h
        obtain ⟨v, hv, r⟩ := sl.sh i d he
        exact ⟨v, hv, h J H (.refl _ _) hd v r⟩
end
/-- the slots at a def's start -/
theorem slots_start {K : PySem.W.Frag} {w : World} {J : Jt} {H : Hp} {N : List Str} {vs : List V} {ds : List D} (rl : RepL K w J vs ds) (hn : ds.length ≤ N.length) : Slots K w J H (L2.start N vs) (ds.map (fun d => some (d, false)) ++ List.replicate (N.length - ds.length) none) := by
  have nown : ∀ (i : Nat) (d : D), (ds.map (fun d => some (d, false)) ++ List.replicate (N.length - ds.length) none : MP.Env)[i]? ≠ some (some (d, true)) := by
    intro i d he
    by_cases hi : i < ds.length
    · rw [List.getElem?_append_left (by simpa using hi), List.getElem?_map] at he
      obtain ⟨d', h1, h2⟩ := Option.map_eq_some_iff.mp he
      cases h2
    · rw [List.getElem?_append_right (by simpa using hi), List.getElem?_replicate] at he
      split at he <;> cases he
  refine ⟨?_, fun i d he => ?_, fun i d he => absurd he (nown i d), fun i j d d' a h1 _ _ _ => absurd h1 (nown i d)⟩
  · unfold L2.start
    simp [rl.len]
  · have hi : i < ds.length := by
      by_cases hi : i < ds.length
      · exact hi
      · rw [List.getElem?_append_right (by simpa using hi), List.getElem?_replicate] at he
        split at he <;> cases he
    rw [List.getElem?_append_left (by simpa using hi), List.getElem?_map] at he
    obtain ⟨d', h1, h2⟩ := Option.map_eq_some_iff.mp he
    cases h2
    obtain ⟨v, h3, h4⟩ := rl.get h1
    refine ⟨v, ?_, h4⟩
    unfold L2.start
    rw [List.getElem?_append_left (by simpa [rl.len] using hi), List.getElem?_map, h3]
    rfl
/-- where a def's body stands -/
theorem xok_start {P : Program} {w : World} {K : PySem.W.Frag} {mg : Str → Option Value} {base : Heap} {k : Nat} {f : Addr} {qual : Str} {scope : Scope} {cdv : Value} {S : Cs} {Y : Ctx} {ER : ExR} {ps : List Str} (hsc : S.sc = scope) (FS : FnScope S.N ps scope)
    (nodb : S.N.all (fun x => !(x == ("__debug__" : Str)) && !(x == ("__classdict__" : Str))) = true) (G : Globs S Y ER k P w K mg base) {A : Around} {outer : List PySem.Env} {s : Shared} {H : Hp} {E : XK}
    (hr : Room k (A.deeper (envOfC qual scope s.heap.objs.size f cdv))) (hsk : (A.deeper (envOfC qual scope s.heap.objs.size f cdv)).depth + 3 * k + 7 < recursionLimit ∧ (A.deeper (envOfC qual scope s.heap.objs.size f cdv)).units + 16 * k + 212 < cLine) (hgd : A.guards = some []) :
    XOk S Y ER k (fun cls d _ H' => E cls d H') (cxOf (L2.CX P w) P w K mg base S.N qual scope f cdv A outer s H E) := {
      N := rfl
      nd := FS.nd
      nodb := fun x hx => by
        have := List.all_eq_true.mp nodb x hx
        simpa using this
      sc := fun x kd h => .inl (by rw [hsc] at h; exact h)
      fn := fun x h => rfl
      calm := rfl
      room := hr
      slack := hsk
      guards := hgd
      tk := takes_of rfl rfl rfl rfl
      own := passes_of rfl
      G := G }
/-- a def that looks into a cache -/
theorem fok_cache {P : Program} {w : World} {K : PySem.W.Frag} {mg : Str → Option Value} {base : Heap} {k : Nat} {f : Addr} {name qual : Str} {params : Arguments} {body : List Stmt} {scope : Scope} {dV kV doc pm cdv ct oc : Value} {an od : Option Addr}
    {osl : Array (Option Value)} {S : Cs} {Y : Ctx} {ER : ExR} {ps : List Str} {fn : Fn} (lk : K.lookup f = some ⟨oc, od, .func (PySem.W.fnOf name qual params body scope dV kV doc pm an cdv ct), osl⟩) (hcd : PySem.W.codeIn K cdv qual = true) (hsc : S.sc = scope) (FS : FnScope S.N ps scope)
    (nodb : S.N.all (fun x => !(x == ("__debug__" : Str)) && !(x == ("__classdict__" : Str))) = true) (G : Globs S Y ER k P w K mg base) (hSN : ∀ (i : Nat) (p : Str), ps[i]? = some p → S.N[i]? = some p) (hp : ps.length ≤ S.N.length) (hc : cCache S.sig scope ps body = some fn)
    (hcf : ∀ g q cm l s r, S.sig.lookup g = some q → cacheOf g = some cm → modeOk cm.2 s = true → Y.F q.1 (if cm.2 == 1 then [.ins cm.1 l] else [.ins cm.1 l, .str s]) [] = .ok (r, false) [] → CFK K (.ins cm.1 l) s r ∧ ∀ r', CFK K (.ins cm.1 l) s r' → r' = r) :
    FOk P w K mg base (k + 1) f (PySem.W.fnOf name qual params body scope dV kV doc pm an cdv ct) ps (spOf K w ER ps.length (fnRun Y fn)) := by
  refine fok_of lk hcd FS (fun vs H Q E h => ?_) fun A outer s H vs Q E hr hsk hgd hsp => ?_
  · obtain ⟨J, M, ds, _, rl, hl, _⟩ := h
    rw [rl.len, hl]
  · obtain ⟨J, M, ds, hd, rl, hl, h⟩ := hsp
    have ok := xok_start (ER := ER) (f := f) (qual := qual) (cdv := cdv) (outer := outer) (H := H) (E := E) hsc FS nodb G hr hsk hgd
    have vis : ∀ x ∈ ps, Vis scope x := fun x hx => (FS.par x hx).elim .inl fun z => .inr (.inl z)
    have ndb : ∀ (i : Nat) (x : Str), ps[i]? = some x → (x == ("__debug__" : Str)) = false ∧ (x == ("__classdict__" : Str)) = false := fun i x hx => ok.nodb x (List.mem_of_getElem? (hSN i x hx))
    unfold cCache at hc
    split at hc
    · rename_i k1 o1 p1 s1 p2 p3 o2 p4 s2 p5 k2 p6 g p7 es p8 p9 p10 o3 p11 s3 p12 k3 p13 p14
      have hc1 := Option.bind_eq_some_iff.mp hc
      clear hc
      obtain ⟨cm, hcm, hc2⟩ := hc1
      have hc3 := Option.bind_eq_some_iff.mp hc2
      clear hc2
      obtain ⟨q, hq, hc⟩ := hc3
      split at hc
      · rename_i hg
        simp only [Bool.and_eq_true] at hg
        obtain ⟨hg, ⟨e1, e2⟩, e3⟩ := hg
        have e1 := eq_of_beq e1
        have e2 := eq_of_beq e2
        have e3 := eq_of_beq e3
        subst e1 e2 e3
        have hgl : isGl S g = true := by
          unfold isGl; rw [hsc]; exact hg
        unfold cCache2 at hc
        split at hc
        · -- two arguments
          rename_i o t a b
          split at hc
          · rename_i hcc
            cases hc
            simp only [Bool.and_eq_true, Bool.not_eq_true', decide_eq_true_eq] at hcc
            obtain ⟨⟨⟨hm, ⟨⟨⟨f1, f2⟩, f3⟩, f4⟩⟩, ⟨⟨⟨⟨n1, n2⟩, n3⟩, n4⟩, n5⟩⟩, hl2⟩ := hcc
            have f1 := eq_of_beq f1
            have f2 := eq_of_beq f2
            have f3 := eq_of_beq f3
            subst f1 f2 f3
            obtain ⟨q1, rfl⟩ := isNm_eq n1
            obtain ⟨q2, rfl⟩ := isNm_eq n2
            obtain ⟨q3, rfl⟩ := isNm_eq n3
            obtain ⟨q4, rfl⟩ := isNm_eq n4
            obtain ⟨q5, rfl⟩ := isNm_eq n5
            match ds, hl with
            | [d, z], _ =>
              rw [cache_run2] at h
              obtain ⟨l, zs, r, rfl, rfl, hz, hmo, hnl, hnr, hrun, hval⟩ := cacheM_ok (F := Y.F) (g := q.1) (cl := cm.1) (mode := cm.2) (d := d) (z := z) (M := M) (by intro e; rw [e] at h; exact h)
              rw [hval] at h
              have hm' : (cm.2 == 1) = false := hm
              obtain ⟨c1, c2⟩ := hcf g q cm l zs r hq hcm hmo hrun
              rw [hm'] at hrun
              cases rl with
              | @cons v0 _ _ _ r0 rt => cases rt with
                | @cons v1 _ _ _ r1 rt =>
                  cases rt
                  have hv1 : v1 = .str (sOf zs) := by cases r1; rfl
                  subst hv1
                  have N0 := hSN 0 o3 rfl
                  have N1 := hSN 1 t rfl
                  have h0 : (L2.start S.N [v0, V.str (sOf zs)])[0]? = some (some v0) := rfl
                  have h1 : (L2.start S.N [v0, V.str (sOf zs)])[1]? = some (some (.str (sOf zs))) := rfl
                  have vo := vis o3 (by simp)
                  have vt := vis t (by simp)
                  obtain ⟨do1, do2⟩ := ndb 0 o3 rfl
                  obtain ⟨dt1, dt2⟩ := ndb 1 t rfl
                  have hcall : PE (cxOf (L2.CX P w) P w K mg base S.N qual scope f cdv A outer s H E) (.Call (.Name g p7) [.Name o3 q4, .Name t q5] [] p8) (rdE Y ER (fun cls d _ H' => E cls d H') (cxOf (L2.CX P w) P w K mg base S.N qual scope f cdv A outer s H E) (.call q.1 [.var 0, .var 1])) :=
                    e_call ok hq hgl (a_cons (e_var N0 vo do1 do2) (a_cons (e_var N1 vt dt1 dt2) a_nil rfl) rfl) (NoStar.cons (fun _ _ => rfl) (NoStar.cons (fun _ _ => rfl) NoStar.nil)) hl2.symm rfl
                  obtain ⟨t', hB, hT⟩ := cache_body (l := l) (r := r) (zs := zs) (σ0 := L2.start S.N [v0, V.str (sOf zs)]) (Q := Q) (e := [.ins cm.1 l, .str zs].map (fun d => some (d, false)) ++ List.replicate (S.N.length - 2) none) (p1 := p1) (p2 := p2) (p3 := p3) (p4 := p4) (p5 := p5) (p6 := p6) (p7 := p9) (p8 := p10) (p9 := p11) (p10 := p12) (p11 := p13) (p12 := p14) ok N0 vo do1 do2 (key_name (p := q1) N1 vt dt1 dt2 h1) (key_name (p := q2) N1 vt dt1 dt2 h1) (key_name (p := q3) N1 vt dt1 dt2 h1) (fun _ _ => rfl) (fun _ _ => rfl) hcall (fun _ _ => rfl) hd h0 r0 hz hnr
                    (slots_start (K := K) (w := w) (J := J.fg) (H := H) (RepL.cons (r0.fg (by simpa [noMt] using hnl)) (.cons (r1.fg rfl) .nil)) (by simpa using hp)) (by
                      show MM.bind (denL Y [.var 0, .var 1] _) (Y.F q.1) [] = _
                      exact hrun) c1 c2 (fun v H' J' g hd' rv => h v H' J' g hd' rv)
                  exact ⟨t', hB, hT _⟩
          · cases hc
        · -- one argument
          rename_i o a
          split at hc
          · rename_i hcc
            cases hc
            simp only [Bool.and_eq_true, decide_eq_true_eq] at hcc
            obtain ⟨⟨⟨hm, ⟨⟨f1, f2⟩, f3⟩⟩, ⟨⟨⟨n1, n2⟩, n3⟩, n4⟩⟩, hl2⟩ := hcc
            have f1 := eq_of_beq f1
            have f2 := eq_of_beq f2
            have f3 := eq_of_beq f3
            subst f1 f2 f3
            obtain ⟨j1, q1, rfl⟩ := isKst_eq n1
            obtain ⟨j2, q2, rfl⟩ := isKst_eq n2
            obtain ⟨j3, q3, rfl⟩ := isKst_eq n3
            obtain ⟨q4, rfl⟩ := isNm_eq n4
            match ds, hl with
            | [d], _ =>
              rw [cache_run1] at h
              obtain ⟨l, zs, r, rfl, ez, hz, hmo, hnl, hnr, hrun, hval⟩ := cacheM_ok (F := Y.F) (g := q.1) (cl := cm.1) (mode := 1) (d := d) (z := .str thingsKey) (M := M) (by intro e; rw [e] at h; exact h)
              cases ez
              rw [hval] at h
              have hm' : cm.2 = 1 := eq_of_beq hm
              obtain ⟨c1, c2⟩ := hcf g q cm l thingsKey r hq hcm (by rw [hm']; exact hmo) (by rw [hm']; exact hrun)
              have hkey : sOf thingsKey = ("things" : Str) := by decide +kernel
              cases rl with
              | @cons v0 _ _ _ r0 rt =>
                  cases rt
                  have N0 := hSN 0 o3 rfl
                  have h0 : (L2.start S.N [v0])[0]? = some (some v0) := rfl
                  have vo := vis o3 (by simp)
                  obtain ⟨do1, do2⟩ := ndb 0 o3 rfl
                  have hcall : PE (cxOf (L2.CX P w) P w K mg base S.N qual scope f cdv A outer s H E) (.Call (.Name g p7) [.Name o3 q4] [] p8) (rdE Y ER (fun cls d _ H' => E cls d H') (cxOf (L2.CX P w) P w K mg base S.N qual scope f cdv A outer s H E) (.call q.1 [.var 0])) :=
                    e_call ok hq hgl (a_cons (e_var N0 vo do1 do2) a_nil rfl) (NoStar.cons (fun _ _ => rfl) NoStar.nil) hl2.symm rfl
                  obtain ⟨t', hB, hT⟩ := cache_body (l := l) (r := r) (zs := thingsKey) (σ0 := L2.start S.N [v0]) (Q := Q) (e := [.ins cm.1 l].map (fun d => some (d, false)) ++ List.replicate (S.N.length - 1) none) (p1 := p1) (p2 := p2) (p3 := p3) (p4 := p4) (p5 := p5) (p6 := p6) (p7 := p9) (p8 := p10) (p9 := p11) (p10 := p12) (p11 := p13) (p12 := p14) ok N0 vo do1 do2 (by rw [hkey]; exact key_const (j := j1) (p := q1)) (by rw [hkey]; exact key_const (j := j2) (p := q2)) (by rw [hkey]; exact key_const (j := j3) (p := q3)) (fun _ _ => rfl) (fun _ _ => rfl) hcall (fun _ _ => rfl) hd h0 r0 hz hnr
                    (slots_start (K := K) (w := w) (J := J.fg) (H := H) (RepL.one (r0.fg (by simpa [noMt] using hnl))) (by simpa using hp)) (by
                      show MM.bind (denL Y [.var 0] _) (Y.F q.1) [] = _
                      exact hrun) c1 c2 (fun v H' J' g hd' rv => h v H' J' g hd' rv)
                  exact ⟨t', hB, hT _⟩
          · cases hc
        · cases hc
      · cases hc
    · cases hc
end MP
end

section
set_option linter.all false
set_option Elab.async false
set_option maxRecDepth 100000
set_option maxHeartbeats 8000000
namespace MP
open PySem PySem.Spec PyProof.Rows L2
theorem init_run {Y : Ctx} {cc : C} {d : D} {M : Mem} : fnRun Y ⟨2, 1, [.expr cc], 1⟩ [d] M = match den Y cc [none, some (d, false)] M with
    | .ok _ M' => .ok (.non, false) M'
    | .exc c p M' => .exc c p M'
    | .bad => .bad := by
  cases q : den Y cc [none, some (d, false)] M <;> simp [fnRun, denSs, denS, MM.bind, MM.pure, q]
def Jt.mk2 (J : Jt) (x : Addr) (o : HO) (s : Addr) (d : D) : Jt := ⟨fun b => if b = x then some o else J.I b, J.ρ, fun b => if b = s then some d else J.C b⟩
theorem go_new2 {J : Jt} {H0 : Hp} {x dx : Addr} {o1 o2 : HO} (hx : H0 x = none) (hdx : H0 dx = none) (ne : dx ≠ x) : Go J H0 J (upd (upd H0 dx o1) x o2) :=
  (go_new J o1 hdx).trans (go_new J o2 (by rw [upd_ne ne.symm]; exact hx))
/-- the instance is whole -/
theorem ins_made {K : PySem.W.Frag} {w : World} {J J1 : Jt} {M M1 : Mem} {H0 H1 : Hp} {x dx sd C : Addr} {c : Nat} {nm f : Str} {v : V} {d : D} (hct : clsTab[c]? = some (nm, [f], true)) (hC : clsAt K c = some C) (hx : H0 x = none) (hdx : H0 dx = none) (ne : dx ≠ x)
    (hd : Hold K w J M H0) (rv : Rep K w J v d) (g : Go J (upd (upd H0 dx (.own x)) x (.ins C dx [])) J1 H1) (hd1 : Hold K w J1 M1 H1) {u : HO} (hs : (upd H1 x u) sd = none) :
    let o : HO := .ins C dx [(f, v), (("seen" : Str), V.ref sd)]
    let H3 : Hp := upd (upd (upd H1 x u) sd (.dK [])) x o
    Go J H0 (J1.mk2 x o sd (.ins c [d])) H3 ∧ Hold K w (J1.mk2 x o sd (.ins c [d])) M1 H3 ∧ Rep K w (J1.mk2 x o sd (.ins c [d])) (.ref x) (.ins c [d]) := by
  intro o H3
  have nsx : sd ≠ x := by rintro rfl; rw [upd_same] at hs; cases hs
  have hs1 : H1 sd = none := by rw [upd_ne nsx] at hs; exact hs
  have hHx : (upd (upd H0 dx (.own x)) x (.ins C dx []) : Hp) x = some (.ins C dx []) := upd_same
  obtain ⟨hIx, hfx⟩ := hd.fresh hx
  have hf1 : J1.free x := g.free hHx hfx
  have hn0 : ∀ {a : Addr}, (upd (upd H0 dx (.own x)) x (.ins C dx []) : Hp) a = none → H0 a = none := fun {a} h => by
    by_cases e : a = x
    · subst e; exact hx
    · rw [upd_ne e] at h
      by_cases e2 : a = dx
      · subst e2; exact hdx
      · rw [upd_ne e2] at h; exact h
  have hI1x : J1.I x = none := by
    cases e : J1.I x with
    | none => rfl
    | some u =>
      rcases g.newI x u e with z | z
      · rw [hIx] at z; cases z
      · rw [hHx] at z; cases z
  have hH0s : H0 sd = none := hn0 (none_of_not fun z => by have := g.keepR sd z; rw [hs1] at this; cases this)
  have e1 : Ext J1 (J1.mk2 x o sd (.ins c [d])) := by
    refine ⟨fun a u h => ?_, fun _ _ h => h, fun a u h => ?_⟩
    · show (if a = x then some o else J1.I a) = some u
      rw [if_neg (by rintro rfl; rw [hI1x] at h; cases h)]; exact h
    · show (if a = sd then some (D.ins c [d]) else J1.C a) = some u
      rw [if_neg (by rintro rfl; obtain ⟨kvs, q, _⟩ := hd1.c a u h; rw [hs1] at q; cases q)]; exact h
  have at3 : ∀ {a : Addr}, a ≠ x → a ≠ sd → H3 a = H1 a := fun {a} h1 h2 => by
    show upd (upd (upd H1 x u) sd (.dK [])) x o a = H1 a
    rw [upd_ne h1, upd_ne h2, upd_ne h1]
  refine ⟨⟨g.ext.trans e1, fun a u h => ?_, fun a h => ?_, fun a u h => ?_, fun a u h hf => ?_, fun a h => ?_⟩, ⟨fun a u h => ?_, hd1.len, fun n mo hm => ?_, hd1.nd, fun s' d' hs' => ?_⟩, ?_⟩
  · replace h : (if a = x then some o else J1.I a) = some u := h
    split at h
    · rename_i e; subst e; exact .inr hx
    · rcases g.newI a u h with z | z
      · exact .inl z
      · exact .inr (hn0 z)
  · rcases g.newR a h with z | z
    · exact .inl z
    · exact .inr (hn0 z)
  · replace h : (if a = sd then some (D.ins c [d]) else J1.C a) = some u := h
    split at h
    · rename_i e; subst e; exact .inr hH0s
    · rcases g.newC a u h with z | z
      · exact .inl z
      · exact .inr (hn0 z)
  · have nx : a ≠ x := by rintro rfl; rw [hx] at h; cases h
    have ndx : a ≠ dx := by rintro rfl; rw [hdx] at h; cases h
    have ns : a ≠ sd := by rintro rfl; rw [hH0s] at h; cases h
    rw [at3 nx ns]
    exact g.keep a u (by rw [upd_ne nx, upd_ne ndx]; exact h) hf
  · by_cases e : a = x
    · subst e; show (upd _ a o a).isSome = true; rw [upd_same]; rfl
    · by_cases e2 : a = sd
      · subst e2
        show (upd (upd (upd H1 x u) a (.dK [])) x o a).isSome = true
        rw [upd_ne e, upd_same]; rfl
      · rw [at3 e e2]
        refine g.keepR a ?_
        rw [upd_ne e]
        by_cases e3 : a = dx
        · subst e3; rw [upd_same]; rfl
        · rw [upd_ne e3]; exact h
  · replace h : (if a = x then some o else J1.I a) = some u := h
    split at h
    · rename_i e; subst e; cases h; exact upd_same
    · rename_i e
      rw [at3 e (by rintro rfl; rw [hd1.I _ _ h] at hs1; cases hs1)]
      exact hd1.I a u h
  · obtain ⟨a, u', h1, h2, h3, h4⟩ := hd1.m n mo hm
    have nx : a ≠ x := by rintro rfl; exact hf1.1 (List.mem_of_getElem? h1)
    have ns : a ≠ sd := by rintro rfl; rw [hs1] at h2; cases h2
    refine ⟨a, u', h1, by rw [at3 nx ns]; exact h2, ?_, h4.ext e1⟩
    show (if a = x then some o else J1.I a) = none
    rw [if_neg nx]; exact h3
  · replace hs' : (if s' = sd then some (D.ins c [d]) else J1.C s') = some d' := hs'
    split at hs'
    · rename_i e
      subst e
      refine ⟨[], ?_, ?_, fun hm => ?_, by simp, fun kv hk => by cases hk⟩
      · show upd (upd (upd H1 x u) s' (.dK [])) x o s' = _
        rw [upd_ne nsx, upd_same]
      · show (if s' = x then some o else J1.I s') = none
        rw [if_neg nsx]; exact (hd1.fresh hs1).1
      · exact (hd1.fresh hs1).2.1 hm
    · rename_i e
      obtain ⟨kvs, q1, q2, q3, q4⟩ := hd1.c s' d' hs'
      have nx : s' ≠ x := by rintro rfl; rw [hf1.2] at hs'; cases hs'
      refine ⟨kvs, by rw [at3 nx e]; exact q1, ?_, q3, q4.ext e1⟩
      show (if s' = x then some o else J1.I s') = none
      rw [if_neg nx]; exact q2
  · have hn : PySem.W.nsIn K mainGlobals nm = some (some (.ref C)) := clsAt_some hC (by unfold clsNm; rw [List.getElem?_map, hct]; rfl)
    refine .ins (fn := [f]) (vs := [v]) (s := sd) (dx := dx) hct hn ?_ rfl ?_ (.one ((rv.ext g.ext).ext e1))
    · show (if x = x then some o else J1.I x) = _
      rw [if_pos rfl]; rfl
    · show (if sd = sd then some (D.ins c [d]) else J1.C sd) = _
      rw [if_pos rfl]
theorem fok_init {P : Program} {w : World} {K : PySem.W.Frag} {mg : Str → Option Value} {base : Heap} {k n c : Nat} {fa : Addr} {name qual : Str} {params : Arguments} {scope : Scope} {dV kV doc pm cdv ct oc : Value} {an od : Option Addr}
    {osl : Array (Option Value)} {S : Cs} {Y : Ctx} {ER : ExR} {sf p nm f : Str} {f0 : Expr} {es0 : List Expr} {kws0 : List Keyword} {cp p1 p2 p3 p4 p5 p6 p7 p8 p9 : Pos} {cc : C}
    (lk : K.lookup fa = some ⟨oc, od, .func (PySem.W.fnOf name qual params [.Expr (.Call f0 es0 kws0 cp) p1, .Assign [.Attribute (.Name sf p2) f p3] (.Name p p4) p5, .Assign [.Attribute (.Name sf p6) ("seen" : Str) p7] (.Dict [] [] p8) p9] scope dV kV doc pm an cdv ct), osl⟩) (hcd : PySem.W.codeIn K cdv qual = true) (hsc : S.sc = scope) (FS : FnScope S.N [sf, p] scope)
    (nodb : S.N.all (fun x => !(x == ("__debug__" : Str)) && !(x == ("__classdict__" : Str))) = true) (G : Globs S Y ER k P w K mg base) (hct : clsTab[c]? = some (nm, [f], true)) (hN0 : S.N[0]? = some sf) (hN1 : S.N[1]? = some p) (hN2 : S.N.length = 2) (hn : n ≤ szLine) (hcE : cE n S (.Call f0 es0 kws0 cp) = some cc) :
    FOk P w K mg base (k + 1) fa (PySem.W.fnOf name qual params [.Expr (.Call f0 es0 kws0 cp) p1, .Assign [.Attribute (.Name sf p2) f p3] (.Name p p4) p5, .Assign [.Attribute (.Name sf p6) ("seen" : Str) p7] (.Dict [] [] p8) p9] scope dV kV doc pm an cdv ct) [sf, p] (spInit K w ER c (fnRun Y ⟨2, 1, [.expr cc], 1⟩)) := by
  refine fok_of lk hcd FS (fun vs H Q E h => ?_) fun A outer s H vs Q E hr hsk hgd hsp => ?_
  · obtain ⟨J, M, d, v, x, dx, C, H0, rfl, _⟩ := h
    rfl
  · obtain ⟨J, M, d, v, x, dx, C, H0, rfl, hC, hH, hx, hdx, ne, hd, rv, h⟩ := hsp
    rw [init_run] at h
    have ok := xok_start (ER := ER) (f := fa) (qual := qual) (cdv := cdv) (outer := outer) (H := H) (E := E) hsc FS nodb G hr hsk hgd
    have vs0 : Vis scope sf := (FS.par sf (by simp)).elim .inl fun z => .inr (.inl z)
    have vs1 : Vis scope p := (FS.par p (by simp)).elim .inl fun z => .inr (.inl z)
    obtain ⟨ds1, ds2⟩ := ok.nodb sf (List.mem_of_getElem? hN0)
    obtain ⟨dp1, dp2⟩ := ok.nodb p (List.mem_of_getElem? hN1)
    have F := clsB_ok (G.cls c) hct hC
    have hfs : f ≠ ("seen" : Str) := by
      have : ∀ q ∈ clsTab, ("seen" : Str) ∉ q.2.1 := by decide +kernel
      have := this _ (List.mem_of_getElem? hct)
      rintro rfl; exact this (by simp)
    let X := cxOf (L2.CX P w) P w K mg base S.N qual scope fa cdv A outer s H E
    have hcall : PE X (.Call f0 es0 kws0 cp) (rdE Y ER (fun cls d _ H' => E cls d H') X cc) := (snd_all n hn).e S _ cc k _ _ hcE ok
    have pv0 : ∀ {q : Pos}, PE X (.Name sf q) (tVar 0) := pe_var hN0 vs0 ds1 ds2
    have pv1 : ∀ {q : Pos}, PE X (.Name p q) (tVar 1) := pe_var hN1 vs1 dp1 dp2
    refine ⟨_, pss_cons (ps_expr hcall rfl) (pss_cons (ps_fld pv0 pv1 rfl) (pss_one (ps_fld pv0 pe_dnewK rfl))), ?_⟩
    have hst : L2.start S.N [V.ref x, v] = [some (.ref x), some v] := by
      unfold L2.start
      rw [hN2]
      rfl
    rw [hst]
    have hg0 : Go J H0 J H := by rw [hH]; exact go_new2 hx hdx ne
    have hdH : Hold K w J M H := by rw [hH]; exact (hd.new hdx).new (by rw [upd_ne ne.symm]; exact hx)
    have sl : Slots K w J H [some (.ref x), some v] [none, some (d, false)] := by
      refine ⟨rfl, fun i d' he => ?_, fun i d' he => ?_, fun i j d1 d2 a h1 => ?_⟩
      · match i, he with
        | 0, he => cases he
        | 1, he => cases he; exact ⟨v, rfl, rv⟩
        | i + 2, he => cases he
      · match i, he with
        | 0, he => cases he
        | 1, he => cases he
        | i + 2, he => cases he
      · match i, h1 with
        | 0, h1 => cases h1
        | 1, h1 => cases h1
        | i + 2, h1 => cases h1
    show rdE Y ER (fun cls d _ H' => E cls d H') X cc _ H _
    refine ⟨J, M, [none, some (d, false)], hdH, sl, ?_⟩
    cases q : den Y cc [none, some (d, false)] M with
    | exc cx px M1 =>
      rw [q] at h
      exact fun cv dd J' H' g hd' er => h cv dd H' J' (hg0.trans g) hd' er
    | bad => rw [q] at h; exact h
    | ok o M1 =>
      rw [q] at h
      intro J1 H1 g1 hd1 u ru
      subst hH
      have hx1 : H1 x = some (.ins C dx []) := g1.keep x _ upd_same (hd.fresh hx).2
      refine ⟨v, rfl, .ref x, rfl, x, C, dx, [], rfl, hx1, F.cls, F.na f (by simp), by decide, ?_⟩
      intro sd hsd
      refine ⟨.ref x, rfl, x, C, dx, [(f, v)], rfl, ?_, F.cls, F.na _ (by simp), by show 1 < 1000; decide, ?_⟩
      · have : sd ≠ x := by rintro rfl; rw [upd_same] at hsd; cases hsd
        rw [upd_ne this.symm, upd_same]
        rfl
      · obtain ⟨r1, r2, r3⟩ := ins_made (c := c) (nm := nm) (f := f) hct hC hx hdx ne hd rv g1 hd1 hsd
        have e : putF ("seen" : Str) (V.ref sd) [(f, v)] = [(f, v), (("seen" : Str), V.ref sd)] := by
          unfold putF
          rw [if_neg hfs]
          rfl
        rw [e]
        exact h _ _ r1 r2 r3
end MP
end

section
set_option linter.all false
set_option Elab.async false
set_option maxRecDepth 100000
set_option maxHeartbeats 8000000
namespace MP
open PySem PySem.Spec PyProof.Rows L2
/-- what the heads' check of the dicts' keys looks at -/
def dicK (K : PySem.W.Frag) (x : Str) : Option (List (Option (Str × Int))) := match PySem.W.nsIn K mainGlobals x with
  | some (some v) => (match dictE K v with
    | some (a, _) => He.dicW K a
    | none => none)
  | _ => none
def bltNames : List Str := ["len", "tuple", "list", "all", "any", "int", "str", "repr", "abs", "min", "max", "sum", "sorted", "dict", "divmod", "range", "zip", "enumerate", "isinstance", "bool"]
def bltK (K : PySem.W.Frag) : Bool := bltNames.all fun x => match PySem.W.nsIn K mainGlobals x with
  | some none => true
  | _ => false
/-- nothing is let out -/
def ER0 : ExR := fun _ _ _ _ _ _ => False
theorem lookup_mem {α : Type} {x : Str} {v : α} : ∀ {l : List (Str × α)}, l.lookup x = some v → (x, v) ∈ l
  | [], h => by simp at h
  | (k, w) :: l, h => by
    by_cases e : x = k
    · subst e
      simp [List.lookup] at h
      subst h; exact List.mem_cons_self
    · have e' : (x == k) = false := by simpa using e
      simp only [List.lookup, e'] at h
      exact List.mem_cons_of_mem _ (lookup_mem h)
theorem lookup_memN {α : Type} {x : Nat} {v : α} : ∀ {l : List (Nat × α)}, l.lookup x = some v → (x, v) ∈ l
  | [], h => by simp at h
  | (k, w) :: l, h => by
    by_cases e : x = k
    · subst e
      simp [List.lookup] at h
      subst h; exact List.mem_cons_self
    · have e' : (x == k) = false := by simpa using e
      simp only [List.lookup, e'] at h
      exact List.mem_cons_of_mem _ (lookup_memN h)
theorem zip_range {α : Type} {l : List α} {x : α} {i : Nat} (h : (x, i) ∈ l.zip (List.range l.length)) : l[i]? = some x := by
  obtain ⟨j, hj⟩ := List.mem_iff_getElem?.mp h
  rw [List.getElem?_zip_eq_some] at hj
  obtain ⟨h1, h2⟩ := hj
  have h3 := List.getElem?_eq_some_iff.mp h2
  obtain ⟨h4, h5⟩ := h3
  simp at h5
  dsimp only at h1 h2
  rw [← h5]; exact h1
theorem conD_rep {K : PySem.W.Frag} {w : World} : ∀ {n : Nat} {v : Value} {d : D}, conD K n v = some d → ∃ u, RelV u v ∧ ∀ J, Rep K w J u d
  | 0, v, d, h => by simp [conD] at h
  | n + 1, v, d, h => by
    unfold conD at h
    split at h
    · cases h; exact ⟨.non, rfl, fun J => .non⟩
    · cases h; exact ⟨.bl _, rfl, fun J => .bl _⟩
    · cases h; exact ⟨.int _, ⟨_, rfl⟩, fun J => .int _⟩
    · split at h
      · rename_i s t hc
        cases h
        simp only [Bool.and_eq_true, decide_eq_true_eq, List.all_eq_true] at hc
        refine ⟨.str s, ⟨_, rfl⟩, fun J => ?_⟩
        have := Rep.str (K := K) (w := w) (J := J) s.cps.toList (by simpa using hc.2) (fun c hx => of_decide_eq_true (by simpa using hc.1 c hx))
        rw [sOf_of] at this
        exact this
      · cases h
    · split at h
      · rename_i a o its nn sl hlk
        split at h
        · rename_i hz
          obtain ⟨ds, hds, rfl⟩ := Option.map_eq_some_iff.mp h
          have all : ∀ (l : List Value) (ds : List D), mapO (conD K n) l = some ds → ∃ us, Vals us l ∧ ∀ J, RepL K w J us ds := by
            intro l
            induction l with
            | nil => intro ds h; simp [mapO] at h; subst h; exact ⟨[], .nil, fun J => .nil⟩
            | cons v l ih =>
              intro ds h
              unfold mapO at h
              cases e1 : conD K n v with
              | none => simp [e1] at h
              | some d =>
                cases e2 : mapO (conD K n) l with
                | none => simp [e1, e2] at h
                | some ds' =>
                  simp [e1, e2] at h
                  subst h
                  obtain ⟨u, h1, h2⟩ := conD_rep e1
                  obtain ⟨us, h3, h4⟩ := ih ds' e2
                  exact ⟨u :: us, .cons h1 h3, fun J => .cons (h2 J) (h4 J)⟩
          obtain ⟨us, h1, h2⟩ := all _ _ hds
          exact ⟨.ref a, rfl, fun J => .tup (.inr ⟨_, its, nn, hlk, rfl, rfl, rfl, by rw [← szLine_eq]; exact hz, h1⟩) (h2 J)⟩
        · cases h
      · cases h
    · cases h
theorem ents_rep {K : PySem.W.Frag} {w : World} : ∀ {es : List DictEntry} {l : List (Str × D)}, mapO (entD K) es = some l →
    ∃ kvs : List (Key × V), kvs.map (·.1) = l.map (fun p => Sum.inr p.1) ∧ (∀ J, RepL K w J (kvs.map (·.2)) (l.map (·.2))) ∧ (∀ e ∈ es, e.refKey = false) ∧
      ∀ z : Str, RelO (valV kvs (.inr z)) ((es.find? (·.key.isStr z)).map (·.val))
  | [], l, h => by
    simp [mapO] at h; subst h
    exact ⟨[], rfl, fun J => .nil, by simp, fun z => trivial⟩
  | e :: es, l, h => by
    unfold mapO at h
    cases e1 : entD K e with
    | none => simp [e1] at h
    | some p =>
      cases e2 : mapO (entD K) es with
      | none => simp [e1, e2] at h
      | some l' =>
        simp [e1, e2] at h
        subst h
        obtain ⟨kvs, h1, h2, h3, h4⟩ := ents_rep e2
        unfold entD at e1
        split at e1
        · rename_i s t hk
          obtain ⟨d, hd, rfl⟩ := Option.map_eq_some_iff.mp e1
          obtain ⟨u, r1, r2⟩ := conD_rep (w := w) hd
          refine ⟨(.inr s, u) :: kvs, by simp [h1], fun J => .cons (r2 J) (h2 J), ?_, fun z => ?_⟩
          · intro e' he'
            rcases List.mem_cons.mp he' with rfl | he'
            · unfold DictEntry.refKey; rw [hk]
            · exact h3 e' he'
          · have e0 : e.key.isStr z = (s == z) := by rw [hk]; rfl
            rw [List.find?_cons, e0]
            by_cases hz : s = z
            · subst hz
              have : valV ((Sum.inr s, u) :: kvs) (Sum.inr s : Key) = some u := by simp [valV]
              rw [this]
              simp only [BEq.rfl]
              exact r1
            · have hb : (s == z) = false := by simpa using hz
              rw [hb]
              have : valV ((Sum.inr s, u) :: kvs) (Sum.inr z : Key) = valV kvs (Sum.inr z) := by simp [valV, hz]
              rw [this]
              exact h4 z
        · cases e1
theorem dictD_rep {K : PySem.W.Frag} {w : World} {v : Value} {a : Addr} {es : List DictEntry} {d : D} (he : dictE K v = some (a, es)) (h : dictD K es = some d) (hk : ∃ es n, KDict K w a es n) : ∃ u, RelV u v ∧ ∀ J, Rep K w J u d := by
  unfold dictD at h
  obtain ⟨l, hl, h⟩ := Option.bind_eq_some_iff.mp h
  split at h
  · rename_i hc
    cases h
    simp only [Bool.and_eq_true, decide_eq_true_eq, Bool.not_eq_true'] at hc
    obtain ⟨kvs, h1, h2, h3, h4⟩ := ents_rep (w := w) hl
    unfold dictE at he
    split at he
    · rename_i a' 
      split at he
      · rename_i oc od esA n sl hlk
        cases he
        refine ⟨.ref a, rfl, fun J => .dct (kvs := kvs) (.inr ?_) ?_ ?_ (h2 J)⟩
        · obtain ⟨es', n', hkd⟩ := hk
          refine ⟨es', n', hkd, ?_, ?_, fun z => ?_⟩
          · rintro rfl
            have : l = [] := by
              cases l with
              | nil => rfl
              | cons p l => simp at h1
            rw [this] at hc
            simp at hc
          · intro kv hkv
            have : kv.1 ∈ kvs.map (·.1) := List.mem_map.mpr ⟨kv, hkv, rfl⟩
            rw [h1] at this
            obtain ⟨p, _, e⟩ := List.mem_map.mp this
            exact ⟨p.1, e.symm⟩
          · have q := h4 z
            refine ⟨(esA.toList.find? (·.key.isStr z)).map (·.val), ?_, q⟩
            unfold PySem.W.nsIn
            rw [hlk]
            dsimp only
            cases hf : esA.toList.find? (fun e => e.key.isStr z) with
            | some e => rfl
            | none =>
              have : esA.toList.any (·.refKey) = false := by
                rw [List.any_eq_false]
                intro e he
                rw [h3 e he]
                exact Bool.false_ne_true
              simp [this]
        · rw [h1]
          have nd := hc.1
          have : (l.map fun p => (Sum.inr p.1 : Key)) = (l.map (·.1)).map Sum.inr := by simp
          rw [this]
          refine List.Pairwise.map _ ?_ nd
          intro a b hab z
          exact hab (Sum.inr.inj z)
        · have : ∀ (kvs : List (Key × V)) (l : List (Str × D)), kvs.map (·.1) = l.map (fun p => Sum.inr p.1) → (l.map fun p => D.str p.1.cps.toList) = kvs.map fun p => keyD p.1 := by
            intro kvs
            induction kvs with
            | nil => intro l h; cases l with
              | nil => rfl
              | cons _ _ => simp at h
            | cons kv kvs ih =>
              intro l h
              cases l with
              | nil => simp at h
              | cons p l =>
                simp only [List.map_cons, List.cons.injEq] at h ⊢
                exact ⟨by rw [h.1]; rfl, ih l h.2⟩
          exact this kvs l h1
      · cases he
    · cases he
  · cases h
section
variable {P : Program} {w : World} {K : PySem.W.Frag} {mg : Str → Option Value} {base : Heap} {T : Txt}
theorem sig_mem {x : Str} {ps : Nat × List Str} (h : (sigK K T.names).lookup x = some ps) : ∃ f fd, entG K x = some (f, fd) ∧ T.names[ps.1]? = some x ∧ ps.2 = psOf fd := by
  have hm := lookup_mem h
  unfold sigK at hm
  obtain ⟨p, h1, h2⟩ := List.mem_filterMap.mp hm
  obtain ⟨q, h3, h4⟩ := Option.map_eq_some_iff.mp h2
  cases h4
  exact ⟨q.1, q.2, h3, zip_range h1, rfl⟩
theorem entG_some {x : Str} {f : Addr} {fd : FuncData} (h : entG K x = some (f, fd)) : entK K x = some (f, fd) ∧ entOk K fd = true ∧ (x == ("__debug__" : Str)) = false := by
  unfold entG at h
  obtain ⟨p, h1, h2⟩ := Option.bind_eq_some_iff.mp h
  split at h2
  · rename_i hc
    cases h2
    simp only [Bool.and_eq_true, Bool.not_eq_true'] at hc
    exact ⟨h1, hc.1, hc.2⟩
  · cases h2
theorem entK_some {x : Str} {f : Addr} {fd : FuncData} (h : entK K x = some (f, fd)) : PySem.W.nsIn K mainGlobals x = some (some (.ref f)) ∧ ∃ oc od osl, K.lookup f = some ⟨oc, od, .func fd, osl⟩ := by
  unfold entK at h
  split at h
  · rename_i f' e
    split at h
    · rename_i oc od fd' osl hl
      cases h
      exact ⟨e, oc, od, osl, hl⟩
    · cases h
  · cases h
/-- the facts of a def's form -/
theorem fd_form {fd : FuncData} (hok : entOk K fd = true) : fd = PySem.W.fnOf fd.name fd.qualname fd.params (bodyOf fd) fd.scope fd.defaults fd.kwdefaults fd.doc fd.pyModule fd.annotations fd.code fd.closureTuple ∧ PySem.W.codeIn K fd.code fd.qualname = true ∧ fd.defaults = .none ∧ plainPs fd.params = true ∧ (psOf fd).Nodup ∧ FnScope (nOf fd) (psOf fd) fd.scope ∧
    (nOf fd).all (fun x => !(x == ("__debug__" : Str)) && !(x == ("__classdict__" : Str))) = true ∧ (psOf fd).length ≤ (nOf fd).length := by
  simp only [entOk, Bool.and_eq_true, decide_eq_true_eq] at hok
  obtain ⟨⟨⟨⟨⟨⟨⟨⟨⟨⟨g1, g2⟩, g3⟩, g4⟩, g5⟩, g6⟩, g7⟩, g8⟩, g9⟩, g10⟩, g11⟩ := hok
  refine ⟨?_, g8, ?_, g6, g7, C8.fnScope_by g9, g10, g11⟩
  · obtain ⟨a1, a2, a3, a4, a5, a6, a7, a8, a9, a10, a11, a12, a13, a14, a15⟩ := fd
    simp only at g1 g2 g3 g4
    have q1 := eq_of_beq g1
    have q3 := eq_of_beq g3
    have q2 := List.isEmpty_iff.mp g2
    subst q1 q2 q3
    cases a4 with
    | stmts b => rfl
    | expr _ => simp at g4
  · revert g5
    cases fd.defaults <;> simp
theorem binds_ok {fd : FuncData} (hok : entOk K fd = true) : (∀ (s : Shared) (us : List Value), us.length = (psOf fd).length → BindsTo s fd ⟨us, []⟩ ((psOf fd).zip us)) ∧
    ∀ npos ks pm, ks.Nodup → (∀ y ∈ ks, y ∈ (psOf fd).drop npos) → permOf ks npos (psOf fd) = some pm → ∀ (s : Shared) (us ws : List Value), us.length = npos → ws.length = ks.length → npos + ks.length = (psOf fd).length →
      BindsTo s fd ⟨us, ks.zip ws⟩ ((psOf fd).zip (pm.map fun i => (us ++ ws).getD i .none)) := by
  obtain ⟨_, _, hdf, c6, c7, _⟩ := fd_form hok
  refine ⟨fun s us hl => .of_eq (bind_pos c6 hdf c7 hl), fun npos ks pm hnd hin hpm s us ws h1 h2 h3 => ?_⟩
  subst h1
  exact .of_eq (bind_kw c6 hdf c7 hnd hin h2 h3 hpm)
theorem slots_ps {fd : FuncData} : ∀ (i : Nat) (p : Str), (psOf fd)[i]? = some p → (psOf fd).Nodup → (nOf fd)[i]? = some p := by
  intro i p h nd
  unfold nOf namesOf
  have key : ∀ (l m : List Str), l.Nodup → ∃ r, (l ++ m).eraseDups = l ++ r := by
    intro l
    induction l with
    | nil => intro m _; exact ⟨m.eraseDups, rfl⟩
    | cons a l ih =>
      intro m nd
      obtain ⟨h1, h2⟩ := List.nodup_cons.mp nd
      rw [List.cons_append, List.eraseDups_cons, List.filter_append]
      have : l.filter (fun b => !b == a) = l := List.filter_eq_self.mpr fun b hb => by
        have : b ≠ a := by rintro rfl; exact h1 hb
        simpa using this
      rw [this]
      obtain ⟨r, e⟩ := ih (m.filter fun b => !b == a) h2
      exact ⟨r, by rw [e]; rfl⟩
  have e : fd.params.args.map (·.arg) = psOf fd := rfl
  rw [e, List.append_assoc]
  obtain ⟨r, e2⟩ := key (psOf fd) (scopeNames fd.scope ++ lcSs fuel (bodyOf fd)) nd
  rw [e2, List.getElem?_append_left (List.getElem?_eq_some_iff.mp h).1]
  exact h
/-- what a cache holds is told once -/
theorem cfk_det {d r r' : D} {z : List Nat} (h : CFK K d z r) (h' : CFK K d z r') : r = r' := by
  have run1 : ∀ {k k' f : Nat} {ds : List D} {r r' : D} {o o' : Bool}, run (pgK K TXG) k f ds [] = .ok (r, o) [] → run (pgK K TXG) k' f ds [] = .ok (r', o') [] → r = r' := by
    intro k k' f ds r r' o o' h h'
    rcases Nat.le_total k k' with hk | hk
    · have := run_at hk h
      rw [h'] at this; cases this; rfl
    · have := run_at hk h'
      rw [h] at this; cases this; rfl
  unfold CFK at h h'
  split at h
  · obtain ⟨k, o, h⟩ := h
    obtain ⟨k', o', h'⟩ := h'
    exact run1 h h'
  · split at h
    · rename_i hz
      rw [if_pos hz] at h'
      obtain ⟨k, o, h⟩ := h
      obtain ⟨k', o', h'⟩ := h'
      exact run1 h h'
    · rename_i hz
      rw [if_neg hz] at h'
      obtain ⟨k, o, h⟩ := h
      obtain ⟨k', o', h'⟩ := h'
      exact run1 h h'
  · exact h.elim
theorem txg_len : TXG.names.length ≤ 1000 := by decide +kernel
theorem numOf_ix {g : Str} (hg : g = "found_broken" ∨ g = "found_things" ∨ g = "found_with") {i : Nat} (h : TXG.names[i]? = some g) : i = numOf g := by
  have : ∀ g ∈ (["found_broken", "found_things", "found_with"] : List Str), ∀ i ∈ List.range TXG.names.length, TXG.names[i]? = some g → i = numOf g := by decide +kernel
  refine this g (by rcases hg with rfl | rfl | rfl <;> simp) i ?_ h
  exact List.mem_range.mpr (List.getElem?_eq_some_iff.mp h).1
theorem cache_txg {k : Nat} {g : Str} {q : Nat × List Str} {cm : Nat × Nat} {l : List D} {s : List Nat} {r : D} (h1 : (sigK K TXG.names).lookup g = some q) (h2 : cacheOf g = some cm) (h3 : modeOk cm.2 s = true)
    (h4 : run (pgK K TXG) k q.1 (if cm.2 == 1 then [.ins cm.1 l] else [.ins cm.1 l, .str s]) [] = .ok (r, false) []) : CFK K (.ins cm.1 l) s r ∧ ∀ r', CFK K (.ins cm.1 l) s r' → r' = r := by
  have hc : CFK K (.ins cm.1 l) s r := by
    obtain ⟨f, fd, e1, e2, e3⟩ := sig_mem (T := TXG) h1
    unfold cacheOf at h2
    split at h2
    · rename_i hg
      cases h2
      have hg := eq_of_beq hg
      subst hg
      rw [numOf_ix (.inl rfl) e2] at h4
      exact ⟨k, false, h4⟩
    · split at h2
      · rename_i hg
        cases h2
        have hg := eq_of_beq hg
        subst hg
        rw [numOf_ix (.inr (.inl rfl)) e2] at h4
        have hs : s = thingsKey := eq_of_beq h3
        have hk : thingsKey = txt ("things" : Str) := by decide +kernel
        show if s = txt ("things" : Str) then _ else _
        rw [if_pos (by rw [hs, hk])]
        exact ⟨k, false, h4⟩
      · split at h2
        · rename_i hg
          cases h2
          have hg := eq_of_beq hg
          subst hg
          rw [numOf_ix (.inr (.inr rfl)) e2] at h4
          have hk : thingsKey = txt ("things" : Str) := by decide +kernel
          have hs : ¬ s = txt ("things" : Str) := by
            intro e
            have h3 : (!(s == thingsKey)) = true := h3
            rw [e, hk] at h3
            simp at h3
          show if s = txt ("things" : Str) then _ else _
          rw [if_neg hs]
          exact ⟨k, false, h4⟩
        · cases h2
  exact ⟨hc, fun r' h => cfk_det h hc⟩
/-- what is asked of the written part -/
structure KOk (K : PySem.W.Frag) (w : World) : Prop where
  blt : bltK K = true
  dic : ∀ x ∈ TXG.consts, ∀ v a es, PySem.W.nsIn K mainGlobals x = some (some v) → dictE K v = some (a, es) → ∃ es n, KDict K w a es n
  cls : ∀ c, clsB K c = true
  mem : ∀ c m n, methNo c m = some n → memOk K c m = true
  ini : ∀ c, initB K c = true
abbrev yOf (K : PySem.W.Frag) (k : Nat) : Ctx := ⟨run (pgK K TXG) k, fun x => (pgK K TXG).consts.lookup x, (pgK K TXG).rp⟩
/-- every def, every member, at every depth -/
structure AllOk (P : Program) (w : World) (K : PySem.W.Frag) (mg : Str → Option Value) (base : Heap) (k : Nat) : Prop where
  fns : ∀ (i : Nat) (x : Str) (f : Addr) (fd : FuncData), TXG.names[i]? = some x → entG K x = some (f, fd) → FOk P w K mg base k f fd (psOf fd) (spOf K w ER0 (psOf fd).length (run (pgK K TXG) k i))
  mems : ∀ c m n kd f fd, methNo c m = some n → (m == "__init__") = false → memK K c m = some (kd, f, fd) → FOk P w K mg base k f fd (psOf fd) (spOf K w ER0 (psOf fd).length (run (pgK K TXG) k n))
  inis : ∀ c n f fd, methNo c "__init__" = some n → initK K c = some (f, fd) → FOk P w K mg base k f fd (psOf fd) (spInit K w ER0 c (run (pgK K TXG) k n))
theorem globs_of (X : K.In base) (G : base.Ns mainGlobals mg) (ko : KOk K w) {k : Nat} (ao : AllOk P w K mg base k) (jar : Bool) (fd : FuncData) : Globs (csOf K TXG jar fd) (yOf K k) ER0 k P w K mg base where
  rp := rfl
  calls := fun g ps hg => by
    obtain ⟨f2, fd2, e2, n2, p2⟩ := sig_mem (T := TXG) hg
    obtain ⟨hK2, hok2, hdb2⟩ := entG_some e2
    obtain ⟨hns2, oc2, od2, osl2, lk2⟩ := entK_some hK2
    obtain ⟨b1, b2⟩ := binds_ok hok2
    refine ⟨hdb2, f2, fd2, PySem.W.mg_of X G hns2, ?_, fun s us hl => ?_, fun npos ks pm hmem hpm s us ws h1 h2 h3 => ?_, ?_⟩
    · simp only [PySem.W.keepIn, lk2]
    · rw [p2] at hl ⊢; exact b1 s us hl
    · obtain ⟨_, hmem⟩ := List.mem_filter.mp hmem
      dsimp only at hmem
      have hg' : (sigK K TXG.names).lookup g = some ps := hg
      rw [hg'] at hmem
      simp only [Bool.and_eq_true, decide_eq_true_eq, List.all_eq_true] at hmem
      rw [p2] at hpm h3 hmem ⊢
      exact b2 npos ks pm hmem.1 (fun k hk => List.contains_iff_mem.mp (hmem.2 k hk)) hpm s us ws h1 h2 h3
    · rw [p2]; exact ao.fns ps.1 g f2 fd2 n2 e2
  glob := fun y j d hy hd => by
    have hm := lookup_memN hd
    obtain ⟨p, h1, h2⟩ := List.mem_filterMap.mp hm
    obtain ⟨d', h3, h4⟩ := Option.map_eq_some_iff.mp h2
    cases h4
    have hn1 := zip_range h1
    have hn2 := zip_range (lookup_mem hy)
    rw [hn1] at hn2
    have hpy : p.1 = y := by cases hn2; rfl
    rw [hpy] at h3
    unfold conK at h3
    split at h3
    · cases h3
    · rename_i hdb
      split at h3
      · rename_i v hv
        split at h3
        · rename_i a es hde
          obtain ⟨u, r1, r2⟩ := dictD_rep (w := w) hde h3 (ko.dic y (List.mem_of_getElem? (zip_range (lookup_mem hy))) v a es hv hde)
          exact ⟨by simpa using hdb, v, u, PySem.W.mg_of X G hv, r1, r2⟩
        · obtain ⟨u, r1, r2⟩ := conD_rep (w := w) h3
          exact ⟨by simpa using hdb, v, u, PySem.W.mg_of X G hv, r1, r2⟩
      · cases h3
  blt := fun y hy => by
    have := List.all_eq_true.mp ko.blt y hy
    split at this
    · rename_i hz
      exact PySem.W.mg_none_of X G hz
    · cases this
  cls := ko.cls
  clsn := fun x c hx => by
    have hm := lookup_mem hx
    obtain ⟨h1, h2⟩ := List.mem_filter.mp hm
    have hz := zip_range h1
    dsimp only at h2
    split at h2
    · rename_i C hC
      simp only [Bool.and_eq_true, Bool.not_eq_true'] at h2
      exact ⟨h2.2, hz, C, hC, PySem.W.mg_of X G (clsAt_some hC hz), h2.1⟩
    · cases h2
  memB := ko.mem
  binds := fun fd hok => binds_ok hok
  meths := ao.mems
  inits := fun c n f fd hn hk => by
    have := ko.ini c
    unfold initB at this
    rw [hk] at this
    simp only [Bool.and_eq_true, decide_eq_true_eq] at this
    exact ⟨eq_of_beq this.1, this.2, ao.inis c n f fd hn hk⟩
  initB := fun c hc => by
    have := ko.ini c
    unfold initB at this
    split at this
    · rename_i hk; rw [hk]; rfl
    · rw [Option.isNone_iff_eq_none] at this
      rw [this] at hc; cases hc
theorem fns_names {i : Nat} {x : Str} {fn : Fn} (hi : TXG.names[i]? = some x) (h : (pgK K TXG).fns.lookup i = some fn) : fnK K TXG x = some fn := by
  have hm := lookup_memN h
  have hlt : i < 1000 := Nat.lt_of_lt_of_le (List.getElem?_eq_some_iff.mp hi).1 txg_len
  rcases List.mem_append.mp hm with hm | hm
  · obtain ⟨p, h1, h2⟩ := List.mem_filterMap.mp hm
    obtain ⟨fn', h3, h4⟩ := Option.map_eq_some_iff.mp h2
    cases h4
    have hx : p.1 = x := by
      have := zip_range h1
      rw [hi] at this; cases this; rfl
    rw [hx] at h3
    exact h3
  · exfalso
    unfold memsK at hm
    obtain ⟨c, _, hc⟩ := List.mem_flatMap.mp hm
    split at hc
    · obtain ⟨p, _, h2⟩ := List.mem_filterMap.mp hc
      obtain ⟨f', _, h4⟩ := Option.map_eq_some_iff.mp h2
      cases h4
      omega
    · cases hc
theorem fns_mem {c n : Nat} {m : Str} {fn : Fn} (hn : methNo c m = some n) (h : (pgK K TXG).fns.lookup n = some fn) : memRd K TXG c m = some fn := by
  have hm := lookup_memN h
  have hn' := hn
  unfold methNo at hn'
  obtain ⟨l, hl, hn'⟩ := Option.bind_eq_some_iff.mp hn'
  obtain ⟨i, hi, e⟩ := Option.map_eq_some_iff.mp hn'
  have small : ∀ (c : Nat) (l : List Str), memTab[c]? = some l → l.length ≤ 50 := by
    intro c l hl
    have : ∀ l ∈ memTab, l.length ≤ 50 := by decide +kernel
    exact this l (List.mem_of_getElem? hl)
  have hil := (List.findIdx?_eq_some_iff_getElem.mp hi).1
  have hls := small c l hl
  rcases List.mem_append.mp hm with hm | hm
  · exfalso
    obtain ⟨p, h1, h2⟩ := List.mem_filterMap.mp hm
    obtain ⟨fn', h3, h4⟩ := Option.map_eq_some_iff.mp h2
    cases h4
    have := (List.getElem?_eq_some_iff.mp (zip_range h1)).1
    have := txg_len
    omega
  · unfold memsK at hm
    obtain ⟨c', hc', hc⟩ := List.mem_flatMap.mp hm
    split at hc
    · rename_i l' hl'
      obtain ⟨p, h1, h2⟩ := List.mem_filterMap.mp hc
      obtain ⟨f', h3, h4⟩ := Option.map_eq_some_iff.mp h2
      have hz := zip_range h1
      have hlt := (List.getElem?_eq_some_iff.mp hz).1
      have hls' := small c' l' hl'
      have e1 : 1000 + 50 * c' + p.2 = n := congrArg Prod.fst h4
      have e2 : f' = fn := congrArg Prod.snd h4
      have ec : c' = c := by omega
      subst ec
      have ei : p.2 = i := by omega
      rw [hl] at hl'
      cases hl'
      rw [ei] at hz
      have hm2 : m = p.1 := by
        have := findIdx_get hi
        rw [hz] at this
        cases this; rfl
      rw [hm2, ← e2]
      exact h3
    · cases hc
/-- a def's text, read, keeps its promise -/
theorem fok_fd (X : K.In base) (G : base.Ns mainGlobals mg) (ko : KOk K w) {k : Nat} (ao : AllOk P w K mg base k) {jar : Bool} {f : Addr} {fd : FuncData} {fn : Fn} {oc : Value} {od : Option Addr} {osl : Array (Option Value)} (lk : K.lookup f = some ⟨oc, od, .func fd, osl⟩) (hok : entOk K fd = true) (h : fnRd K TXG jar fd = some fn) :
    FOk P w K mg base (k + 1) f fd (psOf fd) (spOf K w ER0 (psOf fd).length (fnRun (yOf K k) fn)) := by
  obtain ⟨hfd, g8, hdf, g6, g7, FS, g10, g11⟩ := fd_form hok
  have lk' := lk
  rw [hfd] at lk'
  have gl := globs_of X G ko ao jar fd
  unfold fnRd at h
  split at h
  · rename_i f' hc
    cases h
    have := fok_cache (ER := ER0) (S := csOf K TXG jar fd) (Y := yOf K k) (P := P) (w := w) (mg := mg) (base := base) (k := k) lk' g8 rfl FS g10 gl (fun i p hp => slots_ps i p hp g7) g11 hc (fun g q cm l s r h1 h2 h3 h4 => cache_txg h1 h2 h3 h4)
    rw [← hfd] at this
    exact this
  · unfold cFn at h
    obtain ⟨b, hbb, rfl⟩ := Option.map_eq_some_iff.mp h
    have main := fok_main (ER := ER0) (S := csOf K TXG jar fd) (Y := yOf K k) (P := P) (w := w) (mg := mg) (base := base) (k := k) lk' g8 rfl FS g10 gl (n := fuel) (by decide) hbb g11
    rw [← hfd] at main
    exact main
theorem fok_in (X : K.In base) (G : base.Ns mainGlobals mg) (ko : KOk K w) {k : Nat} (ao : AllOk P w K mg base k) {c : Nat} {f : Addr} {fd : FuncData} {fn : Fn} {oc : Value} {od : Option Addr} {osl : Array (Option Value)} (lk : K.lookup f = some ⟨oc, od, .func fd, osl⟩) (hok : entOk K fd = true) (h : cInit K TXG c fd = some fn) :
    FOk P w K mg base (k + 1) f fd (psOf fd) (spInit K w ER0 c (fnRun (yOf K k) fn)) := by
  obtain ⟨hfd, g8, hdf, g6, g7, FS, g10, g11⟩ := fd_form hok
  have lk' := lk
  rw [hfd] at lk'
  have gl := globs_of X G ko ao false fd
  unfold cInit at h
  split at h
  · rename_i nm f0 sf p f1 es0 kws0 cp p1 a1 f1' p3 b1 p5 a2 f2 p7 p8 p9 h1 h2 h3
    split at h
    · rename_i hc
      simp only [Bool.and_eq_true, decide_eq_true_eq, Bool.not_eq_true'] at hc
      obtain ⟨⟨⟨⟨⟨⟨⟨⟨c1, c2⟩, c3⟩, c4⟩, c5⟩, c6⟩, c7⟩, c8⟩, c9⟩ := hc
      obtain ⟨q1, rfl⟩ := isNm_eq c1
      obtain ⟨q2, rfl⟩ := isNm_eq c2
      obtain ⟨q3, rfl⟩ := isNm_eq c3
      have c4 := eq_of_beq c4
      have c5 := eq_of_beq c5
      subst c4 c5
      obtain ⟨cc, hcc, rfl⟩ := Option.map_eq_some_iff.mp h
      rw [h3] at lk' hfd
      rw [h2] at FS
      have := fok_init (ER := ER0) (S := csOf K TXG false fd) (Y := yOf K k) (P := P) (w := w) (mg := mg) (base := base) (k := k) lk' g8 rfl FS g10 gl h1 (eq_of_beq c8) (eq_of_beq c9) c7 (n := fuel) (by decide) hcc
      rw [← hfd] at this
      rw [h2]
      exact this
    · cases h
  · cases h
theorem fnAt_some {g : Addr} {fd : FuncData} (h : fnAt K g = some fd) : entOk K fd = true ∧ ∃ oc od osl, K.lookup g = some ⟨oc, od, .func fd, osl⟩ := by
  unfold fnAt at h
  split at h
  · rename_i oc od fd' osl e
    split at h
    · rename_i hok; cases h; exact ⟨hok, _, _, _, e⟩
    · cases h
  · cases h
theorem memK_fn {c : Nat} {m : Str} {kd : MK} {f : Addr} {fd : FuncData} (h : memK K c m = some (kd, f, fd)) : fnAt K f = some fd := by
  unfold memK at h
  obtain ⟨C, _, h⟩ := Option.bind_eq_some_iff.mp h
  split at h
  · split at h
    · obtain ⟨fd', h1, e⟩ := Option.map_eq_some_iff.mp h
      cases e; exact h1
    · split at h
      · split at h
        · obtain ⟨fd', h1, e⟩ := Option.map_eq_some_iff.mp h
          cases e; exact h1
        · cases h
      · split at h
        · split at h
          · obtain ⟨fd', h1, e⟩ := Option.map_eq_some_iff.mp h
            cases e; exact h1
          · cases h
        · cases h
  · cases h
theorem initK_fn {c : Nat} {f : Addr} {fd : FuncData} (h : initK K c = some (f, fd)) : fnAt K f = some fd := by
  unfold initK at h
  obtain ⟨C, _, h⟩ := Option.bind_eq_some_iff.mp h
  split at h
  · split at h
    · obtain ⟨fd', h1, e⟩ := Option.map_eq_some_iff.mp h
      cases e; exact h1
    · cases h
  · cases h
theorem all_ok (X : K.In base) (G : base.Ns mainGlobals mg) (ko : KOk K w) : ∀ k, AllOk P w K mg base k
  | 0 => ⟨fun i x f fd _ _ => ⟨fun A outer s H args us vs Q E _ _ _ _ _ h => by
        obtain ⟨J, M, ds, _, _, _, h⟩ := h
        exact h.elim⟩, fun c m n kd f fd _ _ _ => ⟨fun A outer s H args us vs Q E _ _ _ _ _ h => by
        obtain ⟨J, M, ds, _, _, _, h⟩ := h
        exact h.elim⟩, fun c n f fd _ _ => ⟨fun A outer s H args us vs Q E _ _ _ _ _ h => by
        obtain ⟨J, M, d, v, x, dx, C, H0, _, _, _, _, _, _, _, _, h⟩ := h
        exact h.elim⟩⟩
  | k + 1 => by
    have ao := all_ok X G ko k
    have step : ∀ {n : Nat} {fn : Fn}, (pgK K TXG).fns.lookup n = some fn → run (pgK K TXG) (k + 1) n = fnRun (yOf K k) fn := by
      intro n fn hrun
      funext ds
      simp only [run, hrun]
    have none_ : ∀ {n : Nat}, (pgK K TXG).fns.lookup n = none → ∀ ds M, run (pgK K TXG) (k + 1) n ds M = .bad := by
      intro n hrun ds M
      simp only [run, hrun]
      rfl
    refine ⟨fun i x f fd hi he => ?_, fun c m n kd f fd hn hm hk => ?_, fun c n f fd hn hk => ?_⟩
    · obtain ⟨hK, hok, _⟩ := entG_some he
      obtain ⟨hns, oc, od, osl, lk⟩ := entK_some hK
      cases hrun : (pgK K TXG).fns.lookup i with
      | none =>
        refine ⟨fun A outer s H args us vs Q E _ _ _ _ _ h => ?_⟩
        obtain ⟨J, M, ds, _, _, _, h⟩ := h
        rw [none_ hrun] at h
        exact h.elim
      | some fn =>
        rw [step hrun]
        have h3 := fns_names hi hrun
        unfold fnK at h3
        rw [he] at h3
        simp only [Option.bind_some] at h3
        exact fok_fd X G ko ao lk hok h3
    · obtain ⟨hok, oc, od, osl, lk⟩ := fnAt_some (memK_fn hk)
      cases hrun : (pgK K TXG).fns.lookup n with
      | none =>
        refine ⟨fun A outer s H args us vs Q E _ _ _ _ _ h => ?_⟩
        obtain ⟨J, M, ds, _, _, _, h⟩ := h
        rw [none_ hrun] at h
        exact h.elim
      | some fn =>
        rw [step hrun]
        have h3 := fns_mem hn hrun
        unfold memRd at h3
        rw [hm, hk] at h3
        simp only [Bool.false_eq_true, if_false, Option.bind_some] at h3
        exact fok_fd X G ko ao lk hok h3
    · obtain ⟨hok, oc, od, osl, lk⟩ := fnAt_some (initK_fn hk)
      cases hrun : (pgK K TXG).fns.lookup n with
      | none =>
        refine ⟨fun A outer s H args us vs Q E _ _ _ _ _ h => ?_⟩
        obtain ⟨J, M, d, v, x, dx, C, H0, _, _, _, _, _, _, _, _, h⟩ := h
        rw [none_ hrun] at h
        exact h.elim
      | some fn =>
        rw [step hrun]
        have h3 := fns_mem hn hrun
        unfold memRd at h3
        rw [hk] at h3
        simp only [BEq.rfl, if_true, Option.bind_some] at h3
        exact fok_in X G ko ao lk hok h3
end
end MP
end

section
set_option linter.all false
set_option Elab.async false
set_option maxRecDepth 100000
set_option maxHeartbeats 8000000
namespace MP
open PySem PySem.Spec PyProof.Rows L2
theorem law_callF {P : Program} {w : World} {K : PySem.W.Frag} {mg mb : Str → Option Value} {k : Nat} {fa a : Addr} {fd : FuncData} {x : Str} {sp : Sp} {s₁ : Shared} {vs : List Value} {ns : List Int}
    (KX : K.In s₁.heap) (hns : s₁.heap.Ns mainGlobals mg) (hb : s₁.heap.Ns builtinsNs mb) (hbb : ∀ x : Str, x ≠ "__name__" → mb x = bootBuiltins x) (hlim : s₁.heap.NoLimit) (hg : s₁.gens = #[])
    (ha : s₁.heap.get? a = some { cls := .type "list", data := .seq vs.toArray }) (hi : IntsAre vs ns) (hl : ns.length ≤ sizeLine) (hr : Room k callerA) (hgd : callerA.guards = some [])
    (F : ∀ base : Heap, K.In base → base.Ns mainGlobals mg → FOk P w K mg base k fa fd [x] sp) (hbind : ∀ (s : Shared) (u : Value), BindsTo s fd ⟨[u], []⟩ [(x, u)])
    (hsp : ∀ H : Hp, L2.Only H → SqL K H a (ns.map V.int) → sp [.ref a] H (fun v _ => v = .bl true) fun _ _ _ => False) :
    codeAny (model P w) callerA (.call (.ref fa) ⟨[.ref a], []⟩) (fun r s' => r = .ok (.ret (.bool true)) ∧ OldK s₁.heap s'.heap ∧ s'.os = s₁.os ∧ AllBare s'.gens) s₁ := by
  have rv := vals_ints hi
  have lenV := hi.length
  have core : ∀ H : Hp, L2.Only H → SqL K H a (ns.map V.int) → HOk P w H s₁.heap → (∀ b, H b ≠ none → b = a) → (H a ≠ none → K.lookup a = none) →
      codeAny (model P w) callerA (.call (.ref fa) ⟨[.ref a], []⟩) (fun r s' => r = .ok (.ret (.bool true)) ∧ OldK s₁.heap s'.heap ∧ s'.os = s₁.os ∧ AllBare s'.gens) s₁ := by
    intro H hO hS hok hA hK
    have base_of : ∀ {b : Addr} {o : Obj}, s₁.heap.get? b = some o → H b = none → (hidT s₁.heap H).get? b = some o := fun e n => hidT_get e n
    have noA : ∀ {b : Addr} {o : Obj} {es : Array DictEntry} {ep : Nat}, s₁.heap.get? b = some o → o.data = .dict es ep → H b = none := fun {b o es ep} e d => by
      cases q : H b with
      | none => rfl
      | some u =>
        have e' : b = a := hA b (by rw [q]; simp)
        subst e'
        rw [ha] at e; cases e
        have d' : Data.seq vs.toArray _ = Data.dict es ep := d
        cases d'
    have nsK : ∀ {b : Addr} {m : Str → Option Value}, s₁.heap.Ns b m → (hidT s₁.heap H).Ns b m := fun {b m} ⟨o, es, ep, e, d, r⟩ => ⟨o, es, ep, base_of e (noA e d), d, r⟩
    have hKb : K.In (hidT s₁.heap H) := fun b o e => base_of (KX b o e) (by
      cases q : H b with
      | none => rfl
      | some u =>
        have e' : b = a := hA b (by rw [q]; simp)
        subst e'
        rw [hK (by rw [q]; simp)] at e; cases e)
    have hM : Mod K mg (hidT s₁.heap H) := ⟨hKb, nsK hns, ⟨mb, nsK hb, hbb⟩, let ⟨mc, h1, h2⟩ := hlim; ⟨mc, nsK h1, h2⟩⟩
    have e0 : Env0 P w K mg (hidT s₁.heap H) callerA [] s₁ H := ⟨rfl, hM, fun b o e => of_hidT e, Nat.le_of_eq (hidT_size _ _), trivial, fun b hb => absurd (show b ∈ ([] : List Addr) from hb) (by simp), hok, .of_eq hg⟩
    refine codeAny_mono ((F _ hKb (nsK hns)).run callerA [] s₁ H ⟨[.ref a], []⟩ [.ref a] [.ref a] _ _ hr hgd e0 (hbind s₁ (.ref a)) (.cons rfl .nil) (hsp H hO hS)) fun r s' h => ?_
    cases r with
    | error e =>
      obtain ⟨_, _, _, _, _, _, _, _, _, _, _, _, z⟩ := (h : L2.CX P w [] H s₁ _ e s')
      exact z.elim
    | ok fl =>
      cases fl with
      | next => exact False.elim h
      | brk => exact False.elim h
      | cont => exact False.elim h
      | ret u =>
        obtain ⟨v, H', os, bare, un, hok', r', q⟩ := h
        have q' : v = .bl true := q
        subst q'
        obtain rfl : u = Value.bool true := r'
        refine ⟨rfl, OldK.of_keep fun b o e => ?_, os, bare⟩
        cases q : H b with
        | none => exact un.keep b o e q (by intro z; exact absurd (show b ∈ ([] : List Addr) from z) (by simp)) (by simp)
        | some u =>
          rcases hO b with z | ⟨ob, xs, z⟩
          · rw [q] at z; cases z
          · have z2 := un.frzs b ob _ z
            obtain ⟨e1, _⟩ := hok b _ z
            obtain ⟨e2, _⟩ := hok' b _ z2
            rw [e] at e1; cases e1
            exact e2
  cases hk : K.lookup a with
  | some o =>
    have e := KX a o hk
    rw [ha] at e
    cases e
    refine core (fun _ => none) (fun _ => .inl rfl) (.inr ⟨_, vs.toArray, _, hk, rfl, rfl, rfl, by rw [List.size_toArray, lenV]; exact hl, by simpa using rv⟩) (fun b u z => by have z' : (none : Option HO) = some u := z; cases z') (fun b z => absurd rfl z) fun z => absurd rfl z
  | none =>
    refine core (fun b => if b = a then some (.frz { cls := .type "list", data := .seq vs.toArray } (.lst (ns.map V.int))) else none) (fun b => ?_) (.inl (.inr ⟨{ cls := .type "list", data := .seq vs.toArray }, if_pos rfl⟩)) (fun b u z => ?_) (fun b z => ?_) fun _ => hk
    · by_cases hb : b = a
      · exact .inr ⟨_, _, if_pos hb⟩
      · exact .inl (if_neg hb)
    · by_cases hb : b = a
      · have z' := (if_pos hb).symm.trans z
        cases z'
        subst hb
        exact ⟨ha, by rw [List.length_map]; exact hl, vs, _, rv, ha⟩
      · have z' := (if_neg hb).symm.trans z
        cases z'
    · by_cases hb : b = a
      · exact hb
      · exact absurd (if_neg hb) z
/-- the law's own promise, from the plain law -/
theorem sp_law {K : PySem.W.Frag} {w : World} {F : List D → MM (D × Bool)} {H : Hp} {a : Addr} {ns : List Int} (hO : L2.Only H) (hS : SqL K H a (ns.map V.int)) (h : ∃ o M', F [.scr ns] [] = .ok (.bl true, o) M') :
    spOf K w ER0 1 F [.ref a] H (fun v _ => v = .bl true) fun _ _ _ => False := by
  obtain ⟨o, M', e⟩ := h
  refine ⟨⟨fun b => match H b with | some (.frz o xs) => some (.frz o xs) | _ => none, [], fun _ => none⟩, [], [.scr ns], ⟨fun b u hb => ?_, rfl, fun n mo hm => by simp at hm, by simp, fun s d h => nomatch h⟩, .one (.scr ?_), rfl, ?_⟩
  · have hb : (match H b with | some (.frz o xs) => some (HO.frz o xs) | _ => none) = some u := hb
    split at hb
    · rename_i q; cases hb; exact q
    · cases hb
  · rcases hS with hS | hS
    · rcases hS with hS | ⟨ob, hS⟩
      · rcases hO a with z | ⟨_, _, z⟩ <;> (rw [hS] at z; cases z)
      · refine .inl ⟨ob, ?_⟩
        show (match H a with | some (.frz o xs) => some (HO.frz o xs) | _ => none) = _
        rw [hS]
    · exact .inr hS
  · rw [e]
    intro v H' J' _ _ r
    cases o with
    | false => cases r; rfl
    | true => obtain ⟨_, _, _, _, _, _, _, r⟩ := r; cases r
theorem bits_lt {z : Int} (h : Builtin.Int.intBits z ≤ 1048576) : z.natAbs.log2 ≤ 1048576 := by
  unfold Builtin.Int.intBits at h
  split at h
  · rename_i e
    have : z = 0 := by simpa using e
    subst this
    decide
  · omega
def entB (K : PySem.W.Frag) (n x : Str) : Bool := match entG K n with
  | some (_, fd) => psOf fd == [x]
  | none => false
theorem entB_some {K : PySem.W.Frag} {n x : Str} (h : entB K n x = true) : ∃ f fd, entG K n = some (f, fd) ∧ psOf fd = [x] := by
  unfold entB at h
  split at h
  · rename_i f fd e; exact ⟨f, fd, e, eq_of_beq h⟩
  · cases h
/-- the constants that are dicts have their keys told -/
def dsOk (K : PySem.W.Frag) (T : Txt) (kl : List (Option (List Str))) : Bool := (T.consts.zip kl).all fun q => match PySem.W.nsIn K mainGlobals q.1 with
  | some (some v) => (dictE K v).isNone || q.2.isSome
  | _ => true
theorem dic_all {K : PySem.W.Frag} {w : World} {T : Txt} {kl : List (Option (List Str))} (h : T.consts.map (dicK K) = kl.map (Option.map (He.keysIn w.params))) (ho : dsOk K T kl = true) :
    ∀ x ∈ T.consts, ∀ v a es, PySem.W.nsIn K mainGlobals x = some (some v) → dictE K v = some (a, es) → ∃ es n, KDict K w a es n := by
  intro x hx v a es hv he
  obtain ⟨i, hi⟩ := List.mem_iff_getElem?.mp hx
  have h1 := congrArg (fun l => l[i]?) h
  simp only [List.getElem?_map, hi, Option.map_some] at h1
  have h2 : dicK K x = He.dicW K a := by
    unfold dicK
    rw [hv]
    dsimp only
    rw [he]
  rw [h2] at h1
  cases hk : kl[i]? with
  | none => rw [hk] at h1; cases h1
  | some o =>
    rw [hk] at h1
    simp only [Option.map_some, Option.some.injEq] at h1
    have hz : (x, o) ∈ T.consts.zip kl := by
      apply List.mem_iff_getElem?.mpr
      exact ⟨i, by rw [List.getElem?_zip_eq_some]; exact ⟨hi, hk⟩⟩
    have := List.all_eq_true.mp ho _ hz
    dsimp only at this
    rw [hv] at this
    dsimp only at this
    rw [he] at this
    cases o with
    | none => simp at this
    | some ks => exact He.dicW_ok h1
/-- the classes are as the layer takes them -/
def kB (K : PySem.W.Frag) : Bool := bltK K && ((List.range clsTab.length).all (clsB K) && (memB K && (List.range clsTab.length).all (initB K)))
theorem kB_ok {K : PySem.W.Frag} {w : World} (h : kB K = true) (hd : ∀ x ∈ TXG.consts, ∀ v a es, PySem.W.nsIn K mainGlobals x = some (some v) → dictE K v = some (a, es) → ∃ es n, KDict K w a es n) : KOk K w := by
  unfold kB at h
  simp only [Bool.and_eq_true] at h
  obtain ⟨h1, h2, h3, h4⟩ := h
  refine ⟨h1, hd, fun c => ?_, fun c m n hn => ?_, fun c => ?_⟩
  · by_cases hc : c < clsTab.length
    · exact List.all_eq_true.mp h2 c (List.mem_range.mpr hc)
    · unfold clsB
      rw [List.getElem?_eq_none_iff.mpr (by omega)]
  · obtain ⟨l, hl, hm⟩ := methNo_mem hn
    have hc : c < clsTab.length := (List.getElem?_eq_some_iff.mp hl).1
    have := List.all_eq_true.mp h3 c (List.mem_range.mpr hc)
    rw [hl] at this
    exact List.all_eq_true.mp this m hm
  · by_cases hc : c < clsTab.length
    · exact List.all_eq_true.mp h4 c (List.mem_range.mpr hc)
    · have : clsAt K c = none := by
        unfold clsAt
        rw [List.getElem?_eq_none_iff.mpr (by omega)]
        rfl
      unfold initB initK
      rw [this]
      rfl
/-- the goal that k_head leaves, from the plain law -/
theorem walkF {l : PySem.W.OpenLaw} {n k i : Nat} {q : Program} {loose : List Str} {XP : (Str → Option Value) → Heap → Prop} {YP : World → Heap → Prop} {d : DefRec} {K : Params → PySem.W.Frag} {kl : List (Option (List Str))} {x : Str} {Pl : Pg}
    (hn : l.most = some n) (hn2 : n ≤ sizeLine) (hdf : d.params.defaults = []) (hr : Room k callerA) (hY : ∀ (w : World) (h : Heap), YP w h → (K w.params).In h)
    (hid : TXG.names[i]? = some d.name) (hent : ∀ p : Params, entB (K p) d.name x = true) (hkB : ∀ p : Params, kB (K p) = true) (hdic : ∀ p : Params, TXG.consts.map (dicK (K p)) = kl.map (Option.map (He.keysIn p))) (hds : ∀ p : Params, dsOk (K p) TXG kl = true)
    (hpg : ∀ p : Params, fnsK (K p) TXG = Pl.fns ∧ consK (K p) TXG = Pl.consts) (hrp : Pl.rp = reprD)
    (hlaw : ∀ ns : List Int, ns.length ≤ n → (∀ z ∈ ns, z.natAbs.log2 ≤ 1048576) → ∃ o M', run Pl k i [.scr ns] [] = .ok (.bl true, o) M') :
    PySem.W.WalkO q loose XP YP l.row.toRowW d [] (fun f vs => PySem.call f vs) := by
  refine Att.attach_callB hn hdf fun w s₀ s₁ mg mb fa o pm cd doc a vs ns G Y ho hd hcd hmg hobj hints hlen hbits hg => ?_
  have KX := hY w _ Y
  obtain ⟨f, fd, he, hx⟩ := entB_some (hent w.params)
  obtain ⟨hK, hok, _⟩ := entG_some he
  obtain ⟨hns, _⟩ := entK_some hK
  have hfa : fa = f := by
    have := hmg.symm.trans (PySem.W.mg_of KX G.T.g hns)
    cases this; rfl
  subst hfa
  have hpgk : pgK (K w.params) TXG = Pl := by
    obtain ⟨e1, e2⟩ := hpg w.params
    unfold pgK
    rw [e1, e2, ← hrp]
  refine law_callF (fd := fd) (sp := spOf (K w.params) w ER0 1 (run Pl k i)) (x := x) KX G.T.g G.T.b G.T.builtins G.T.nolimit hg hobj hints (Nat.le_trans hlen hn2) hr (by rfl) (fun base hb hm => ?_) (fun s u => ?_) (fun H hO hS => sp_law hO hS (hlaw ns hlen fun z hz => bits_lt (hbits z hz)))
  · have := (all_ok (P := l.prog) (w := w) hb hm (kB_ok (w := w) (hkB w.params) (dic_all (hdic w.params) (hds w.params))) k).fns i d.name fa fd hid he
    rw [hpgk, hx] at this
    exact this
  · have := (binds_ok hok).1 s [u] (by rw [hx]; rfl)
    rw [hx] at this
    exact this
end MP
end

section
set_option linter.all false
set_option Elab.async false
set_option maxRecDepth 100000
set_option maxHeartbeats 4000000
namespace MP
/-- the store grows; what is done on the empty store without growing it is done on any -/
structure Pu {α : Type} (x : MM α) : Prop where
  grow : ∀ M a M', x M = .ok a M' → M.length ≤ M'.length
  any : ∀ a, x [] = .ok a [] → ∀ M, x M = .ok a M
theorem Pu.pure {α : Type} (a : α) : Pu (MM.pure a) := ⟨fun M b M' h => by cases h; exact Nat.le_refl _, fun b h M => by cases h; rfl⟩
theorem Pu.bad {α : Type} : Pu (MP.bad : MM α) := ⟨fun M b M' h => (by cases h), fun b h M => (by cases h)⟩
theorem Pu.orBad {α : Type} (o : Option α) : Pu (MP.orBad o) := by
  cases o with
  | none => exact Pu.bad
  | some a => exact Pu.pure a
theorem Pu.bind {α β : Type} {x : MM α} {f : α → MM β} (h : Pu x) (k : ∀ a, Pu (f a)) : Pu (MM.bind x f) := by
  refine ⟨fun M b M' e => ?_, fun b e M => ?_⟩
  · obtain ⟨a, M1, h1, h2⟩ := bind_ok e
    exact Nat.le_trans (h.grow _ _ _ h1) ((k a).grow _ _ _ h2)
  · obtain ⟨a, M1, h1, h2⟩ := bind_ok e
    have hl := (k a).grow _ _ _ h2
    have : M1 = [] := List.length_eq_zero_iff.mp (by simpa using hl)
    subst this
    unfold MM.bind
    rw [h.any a h1 M]
    exact (k a).any b h2 M
theorem Pu.noExc {α : Type} {x : MM α} (h : Pu x) : Pu (noExc x) := ⟨fun M a M' e => h.grow _ _ _ (noExc_ok e), fun a e M => noExc_of (h.any a (noExc_ok e) M)⟩
theorem Pu.cache (F : Nat → List D → MM (D × Bool)) (g cl mode : Nat) (x z : D) : Pu (cacheM F g cl mode x z) := by
  cases x <;> first | exact Pu.bad | skip
  cases z <;> first | exact Pu.bad | skip
  rename_i c l s
  unfold cacheM
  dsimp only
  split
  · refine ⟨fun M a M' h => ?_, fun a h M => ?_⟩
    · cases q : F g (if mode == 1 then [.ins c l] else [.ins c l, .str s]) [] with
      | ok r M1 =>
        rw [q] at h
        obtain ⟨d, o⟩ := r
        cases o with
        | true => cases h
        | false => cases M1 with
          | cons _ _ => cases h
          | nil =>
            dsimp only at h
            split at h
            · cases h; exact Nat.le_refl _
            · cases h
      | exc c p M1 => rw [q] at h; cases h
      | bad => rw [q] at h; cases h
    · cases q : F g (if mode == 1 then [.ins c l] else [.ins c l, .str s]) [] with
      | ok r M1 =>
        rw [q] at h
        obtain ⟨d, o⟩ := r
        cases o with
        | true => cases h
        | false => cases M1 with
          | cons _ _ => cases h
          | nil =>
            dsimp only at h ⊢
            split at h
            · rename_i hn
              cases h
              rw [if_pos hn]
            · cases h
      | exc c p M1 => rw [q] at h; cases h
      | bad => rw [q] at h; cases h
  · exact Pu.bad
theorem Pu.loop {α : Type} {f : D → α → MM α} (h : ∀ d a, Pu (f d a)) : ∀ (l : List D) (a : α), Pu (loopL f l a)
  | [], a => Pu.pure a
  | d :: l, a => Pu.bind (h d a) fun a' => Pu.loop h l a'
theorem Pu.forL {f : D → Env → MM Fl} (h : ∀ d a, Pu (f d a)) : ∀ (l : List D) (a : Env), Pu (forL f l a)
  | [], a => Pu.pure _
  | d :: l, a => Pu.bind (h d a) fun r => by
    cases r with
    | nx e => exact Pu.forL h l e
    | rt d o => exact Pu.pure _
theorem Pu.whileL {t : Env → MM (D × Bool)} {f : Env → MM Fl} (ht : ∀ e, Pu (t e)) (h : ∀ e, Pu (f e)) : ∀ (n : Nat) (e : Env), Pu (whileL t f n e)
  | 0, e => Pu.bad
  | n + 1, e => Pu.bind (ht e) fun x => by
    obtain ⟨d, o⟩ := x
    cases d <;> first | exact Pu.bad | skip
    rename_i b
    cases b
    · exact Pu.pure _
    · exact Pu.bind (h e) fun r => by
        cases r with
        | nx e => exact Pu.whileL ht h n e
        | rt d o => exact Pu.pure _
theorem Pu.mkm (ds : List D) : Pu (fun m => R.ok (D.mtb m.length, false) (m ++ [MO.lst ds]) : MM (D × Bool)) := ⟨fun M a M' e => by cases e; simp, fun a e M => by
  injection e with _ e2
  simp at e2⟩
theorem Pu.mput (n : Nat) (k d : D) (e : Env) : Pu (mput n k d e) := by
  refine ⟨fun M a M' h => ?_, fun a h M => ?_⟩
  · unfold MP.mput at h
    split at h
    · split at h
      · cases h; simp
      · cases h
    · cases h
  · unfold MP.mput at h
    simp at h
theorem Pu.midx (n : Nat) (y : D × Bool) : Pu (fun m => match m[n]? with
      | some (.lst l) => MP.orBad ((idxO (.lst l) y.1).map fun d => (d, false)) m
      | _ => .bad : MM (D × Bool)) := by
  refine ⟨fun M a M' h => ?_, fun a h M => ?_⟩
  · split at h
    · exact (Pu.orBad _).grow _ _ _ h
    · cases h
  · simp at h
section
variable {F : Nat → List D → MM (D × Bool)} {G : Nat → Option D} {rp : D → Option (List Nat)} (hF : ∀ f ds, Pu (F f ds))
include hF
theorem cmp_pu (o : COp) (x y : D) : Pu (cmpM F o x y) := by
  unfold cmpM
  split
  · exact Pu.bind (Pu.noExc (hF _ _)) fun r => by
      obtain ⟨d, o⟩ := r
      cases d <;> first | exact Pu.pure _ | exact Pu.bad
  · exact Pu.orBad _
mutual
theorem den_pu : ∀ (c : C) (e : Env), Pu (den ⟨F, G, rp⟩ c e)
  | .non, e | .bl _, e | .int _, e | .str _, e => Pu.pure _
  | .glob _, e => Pu.orBad _
  | .cls _, e => Pu.pure _
  | .var i, e => by
    unfold den
    split
    · exact Pu.pure _
    · exact Pu.bad
  | .bvar i, e => by
    unfold den
    split
    · exact Pu.pure _
    · exact Pu.bad
  | .bin o a b, e => Pu.bind (den_pu a e) fun x => Pu.bind (den_pu b e) fun y => Pu.orBad _
  | .neg a, e => Pu.bind (den_pu a e) fun x => by
    obtain ⟨d, o⟩ := x
    cases d <;> first | exact Pu.bad | exact Pu.pure _
  | .not a, e => Pu.bind (den_pu a e) fun x => by
    obtain ⟨d, o⟩ := x
    cases d <;> first | exact Pu.bad | exact Pu.pure _
  | .and a b, e => Pu.bind (den_pu a e) fun x => by
    obtain ⟨d, o⟩ := x
    cases d <;> first | exact Pu.bad | skip
    rename_i t; cases t
    · exact Pu.pure _
    · exact Pu.bind (den_pu b e) fun y => by
        obtain ⟨d, o⟩ := y
        cases d <;> first | exact Pu.bad | exact Pu.pure _
  | .or a b, e => Pu.bind (den_pu a e) fun x => by
    obtain ⟨d, o⟩ := x
    cases d <;> first | exact Pu.bad | skip
    rename_i t; cases t
    · exact Pu.bind (den_pu b e) fun y => by
        obtain ⟨d, o⟩ := y
        cases d <;> first | exact Pu.bad | exact Pu.pure _
    · exact Pu.pure _
  | .cmp o a b, e => Pu.bind (den_pu a e) fun x => Pu.bind (den_pu b e) fun y => cmp_pu hF o x.1 y.1
  | .chain o p a b c, e => Pu.bind (den_pu a e) fun x => Pu.bind (den_pu b e) fun y => by
    split
    · exact Pu.bind (den_pu c e) fun z => Pu.orBad _
    · exact Pu.pure _
    · exact Pu.bad
  | .ite t a b, e => Pu.bind (den_pu t e) fun x => by
    obtain ⟨d, o⟩ := x
    cases d <;> first | exact Pu.bad | skip
    rename_i t; cases t
    · exact den_pu b e
    · exact den_pu a e
  | .tup es, e => Pu.bind (denL_pu es e) fun x => Pu.pure _
  | .lst es, e => Pu.bind (denL_pu es e) fun x => Pu.pure _
  | .dct es, e => Pu.bind (denL_pu es e) fun x => by
    split
    · split
      · exact Pu.pure _
      · exact Pu.bad
    · exact Pu.bad
  | .mkmut es, e => Pu.bind (denL_pu es e) fun x => Pu.mkm x
  | .idx a i, e => Pu.bind (den_pu a e) fun x => Pu.bind (den_pu i e) fun y => by
    obtain ⟨d, o⟩ := x
    cases d <;> first | exact Pu.midx _ y | exact Pu.orBad _
  | .slc a lo hi, e => Pu.bind (den_pu a e) fun x => Pu.bind (den_pu lo e) fun y => by
    split
    · exact Pu.bind (den_pu hi e) fun z => by
        split
        · exact Pu.orBad _
        · exact Pu.bad
    · exact Pu.bad
  | .rev a, e => Pu.bind (den_pu a e) fun x => Pu.orBad _
  | .lc el t k as cond own, e => Pu.bind (denL_pu as e) fun ds => by
    split
    · exact Pu.bad
    · refine Pu.bind (Pu.noExc (Pu.loop (fun d a => ?_) _ _)) fun acc => Pu.pure _
      split
      · exact Pu.bad
      · exact Pu.bind (denT_pu cond _) fun b => by
          cases b
          · exact Pu.pure _
          · exact Pu.bind (den_pu el _) fun y => by
              split
              · exact Pu.pure _
              · exact Pu.bad
  | .lc2 el t k as cond t1 k1 as1 cond1 own own1, e => Pu.bind (denL_pu as e) fun ds => by
    split
    · exact Pu.bad
    · refine Pu.bind (Pu.noExc (Pu.loop (fun d a => ?_) _ _)) fun acc => Pu.pure _
      split
      · exact Pu.bad
      · exact Pu.bind (denT_pu cond _) fun b => by
          cases b
          · exact Pu.pure _
          · refine Pu.bind (denL_pu as1 _) fun ds1 => ?_
            split
            · exact Pu.bad
            · refine Pu.loop (fun d a => ?_) _ _
              split
              · exact Pu.bad
              · exact Pu.bind (denT_pu cond1 _) fun b => by
                  cases b
                  · exact Pu.pure _
                  · exact Pu.bind (den_pu el _) fun y => by
                      split
                      · exact Pu.pure _
                      · exact Pu.bad
  | .call f es, e => Pu.bind (denL_pu es e) fun ds => hF f ds
  | .callp f es pm, e => Pu.bind (denL_pu es e) fun ds => by
    split
    · exact hF f _
    · exact Pu.bad
  | .bi f es, e => Pu.bind (denL_pu es e) fun ds => Pu.orBad _
  | .isi a t, e => Pu.bind (den_pu a e) fun ds => Pu.orBad _
  | .mth m r es, e => Pu.bind (den_pu r e) fun x => by
    by_cases h : rcv m x.1 = true
    · rw [if_pos h]; exact Pu.bind (denL_pu es e) fun ds => Pu.orBad _
    · rw [if_neg h]; exact Pu.bad
  | .attr f a, e => Pu.bind (den_pu a e) fun x => by
    obtain ⟨d, o⟩ := x
    cases d <;> first | exact Pu.bad | skip
    rename_i c ds
    dsimp only
    cases fieldIx c f with
    | some i => exact Pu.orBad _
    | none =>
      dsimp only
      cases methNo c f with
      | some n => exact Pu.noExc (hF _ _)
      | none => exact Pu.bad
  | .meth m a es pm, e => Pu.bind (den_pu a e) fun x => by
    obtain ⟨d, o⟩ := x
    cases d <;> first | exact Pu.bad | skip
    rename_i c ds
    dsimp only
    cases methNo c m with
    | some n =>
      refine Pu.bind (denL_pu es e) fun vs => ?_
      cases mapO (fun i => vs[i]?) pm with
      | some vs' => exact hF _ _
      | none => exact Pu.bad
    | none => exact Pu.bad
  | .mkc c f a, e => Pu.bind (den_pu a e) fun x => Pu.bind (hF _ _) fun _ => Pu.pure _
  | .cache g cl mode o k, e => Pu.bind (den_pu o e) fun x => Pu.bind (den_pu k e) fun z => Pu.cache _ _ _ _ _ _
theorem denL_pu : ∀ (c : List C) (e : Env), Pu (denL ⟨F, G, rp⟩ c e)
  | [], e => Pu.pure _
  | c :: cs, e => Pu.bind (den_pu c e) fun x => Pu.bind (denL_pu cs e) fun xs => Pu.pure _
theorem denT_pu : ∀ (c : List C) (e : Env), Pu (denT ⟨F, G, rp⟩ c e)
  | [], e => Pu.pure _
  | c :: cs, e => Pu.bind (den_pu c e) fun x => by
    obtain ⟨d, o⟩ := x
    cases d <;> first | exact Pu.bad | skip
    rename_i t; cases t
    · exact Pu.pure _
    · exact denT_pu cs e
end
theorem denO_pu : ∀ (c : List C) (e : Env), Pu (denO ⟨F, G, rp⟩ c e)
  | [], e => Pu.pure _
  | c :: cs, e => Pu.bind (den_pu hF c e) fun x => Pu.bind (denO_pu cs e) fun xs => Pu.pure _
mutual
theorem asg_pu : ∀ (t : Tg) (d : D) (e : Env), Pu (asgG ⟨F, G, rp⟩ t d e)
  | .name i, d, e => Pu.pure _
  | .sub i k, d, e => by
    unfold asgG
    split
    · exact Pu.bind (den_pu hF k e) fun y => by
        split
        · exact Pu.pure _
        · exact Pu.bad
    · exact Pu.bad
  | .msub a k, d, e => Pu.bind (den_pu hF a e) fun x => by
    obtain ⟨x, o⟩ := x
    cases x <;> first | exact Pu.bad | exact Pu.bind (den_pu hF k e) fun y => Pu.mput _ _ _ _
  | .tup l, d, e => by
    cases d <;> first | exact Pu.bad | skip
    all_goals
      rename_i ds
      show Pu (if l.length = ds.length then asgGs ⟨F, G, rp⟩ l ds e else MP.bad)
      by_cases h : l.length = ds.length
      · rw [if_pos h]; exact asgs_pu l _ e
      · rw [if_neg h]; exact Pu.bad
theorem asgs_pu : ∀ (t : List Tg) (d : List D) (e : Env), Pu (asgGs ⟨F, G, rp⟩ t d e)
  | [], [], e => Pu.pure _
  | [], _ :: _, e => Pu.bad
  | _ :: _, [], e => Pu.bad
  | t :: ts, d :: ds, e => Pu.bind (asg_pu t d e) fun e' => asgs_pu ts ds e'
end
mutual
theorem s_pu : ∀ (s : S) (e : Env), Pu (denS ⟨F, G, rp⟩ s e)
  | .set i k c, e => Pu.bind (den_pu hF c e) fun x => Pu.pure _
  | .share i, e => Pu.pure _
  | .asg t c, e => Pu.bind (den_pu hF c e) fun x => Pu.bind (asg_pu hF t _ e) fun e' => Pu.pure _
  | .par l cs, e => Pu.bind (denO_pu hF cs e) fun xs => by
    split
    · exact Pu.pure _
    · exact Pu.bad
  | .append i c, e => by
    unfold denS
    split
    · exact Pu.bind (den_pu hF c e) fun y => by
        split
        · exact Pu.pure _
        · exact Pu.bad
    · exact Pu.bad
  | .insert i k c, e => by
    unfold denS
    split
    · exact Pu.bind (den_pu hF k e) fun y => Pu.bind (den_pu hF c e) fun z => by
        obtain ⟨d, o⟩ := y
        cases d <;> first | exact Pu.bad | skip
        simp only
        split
        · exact Pu.pure _
        · exact Pu.bad
    · exact Pu.bad
  | .extend i c, e => by
    unfold denS
    split
    · exact Pu.bind (den_pu hF c e) fun y => by
        obtain ⟨d, o⟩ := y
        cases d <;> first | exact Pu.bad | skip
        simp only
        split
        · exact Pu.pure _
        · exact Pu.bad
    · exact Pu.bad
  | .appPop i j k, e => by
    unfold denS
    split
    · split
      · exact Pu.bind (den_pu hF k e) fun y => by
          split
          · exact Pu.pure _
          · exact Pu.bad
      · exact Pu.bad
    · exact Pu.bad
  | .setPop i j k, e => by
    unfold denS
    split
    · split
      · exact Pu.bind (den_pu hF k e) fun y => by
          split
          · exact Pu.pure _
          · exact Pu.bad
      · exact Pu.bad
    · exact Pu.bad
  | .aug i o c, e => by
    unfold denS
    split
    · exact Pu.bind (den_pu hF c e) fun y => by
        obtain ⟨d, o⟩ := y
        cases d <;> first | exact Pu.bad | skip
        simp only
        split
        · exact Pu.pure _
        · exact Pu.bad
    · exact Pu.bad
  | .augSub i k o c, e => by
    unfold denS
    split
    · refine Pu.bind (den_pu hF k e) fun y => ?_
      split
      · refine Pu.bind (den_pu hF c e) fun z => ?_
        split
        · split
          · split
            · exact Pu.pure _
            · exact Pu.bad
          · exact Pu.bad
        · exact Pu.bad
      · exact Pu.bad
    · exact Pu.bad
  | .for_ t k as b, e => Pu.bind (denL_pu hF as e) fun ds => by
    split
    · exact Pu.bad
    · refine Pu.forL (fun d e => ?_) _ _
      split
      · exact ss_pu b _
      · exact Pu.bad
  | .while_ c b, e => Pu.whileL (fun e => den_pu hF c e) (fun e => ss_pu b e) _ e
  | .ite c a b, e => Pu.bind (den_pu hF c e) fun x => by
    obtain ⟨d, o⟩ := x
    cases d <;> first | exact Pu.bad | skip
    rename_i t; cases t
    · exact ss_pu b e
    · exact ss_pu a e
  | .ret c, e => Pu.bind (den_pu hF c e) fun x => Pu.pure _
  | .retO i, e => by
    unfold denS
    split
    · exact Pu.pure _
    · exact Pu.bad
  | .retN, e => Pu.pure _
  | .expr c, e => Pu.bind (den_pu hF c e) fun x => Pu.pure _
  | .pass, e => Pu.pure _
  | .move i j, e => by
    unfold denS
    split
    · split
      · split
        · exact Pu.pure _
        · exact Pu.bad
      · exact Pu.pure _
    · exact Pu.bad
  | .raise c es, e => Pu.bad
theorem ss_pu : ∀ (s : List S) (e : Env), Pu (denSs ⟨F, G, rp⟩ s e)
  | [], e => Pu.pure _
  | s :: ss, e => Pu.bind (s_pu s e) fun r => by
    cases r with
    | nx e => exact ss_pu ss e
    | rt d o => exact Pu.pure _
end
theorem fn_pu (f : Fn) (ds : List D) : Pu (fnRun ⟨F, G, rp⟩ f ds) := by
  unfold fnRun
  split
  · exact Pu.bind (ss_pu hF f.body _) fun r => by
      cases r with
      | nx e => exact Pu.pure _
      | rt d o => exact Pu.pure _
  · exact Pu.bad
end
theorem run_pu (P : Pg) : ∀ (k f : Nat) (ds : List D), Pu (run P k f ds)
  | 0, f, ds => Pu.bad
  | k + 1, f, ds => by
    cases h : P.fns.lookup f with
    | none =>
      have e : run P (k + 1) f ds = bad := by simp only [run, h]
      rw [e]; exact Pu.bad
    | some fn =>
      have e : run P (k + 1) f ds = fnRun ⟨run P k, fun x => P.consts.lookup x, P.rp⟩ fn ds := by simp only [run, h]
      rw [e]
      exact fn_pu (fun g ds => run_pu P k g ds) fn ds
/-- an answer on the empty store, that leaves it so, is an answer anywhere -/
theorem run_any {P : Pg} {k f : Nat} {ds : List D} {r : D × Bool} (h : run P k f ds [] = .ok r []) (M : Mem) : run P k f ds M = .ok r M := (run_pu P k f ds).any r h M
end MP
end

section
set_option linter.all false
set_option Elab.async false
set_option maxRecDepth 100000
set_option maxHeartbeats 4000000
namespace MP
/-! plain laws: evaluation, step by step -/
section
variable {X : Ctx} {e e' : Env} {M M1 M2 M3 : Mem} {a b c : C} {x y d : D} {o1 o2 o3 : Bool} {es cs : List C} {ds : List D}
theorem ev_int {i : Int} : den X (.int i) e M = .ok (.int i, false) M := rfl
theorem ev_str {s : List Nat} : den X (.str s) e M = .ok (.str s, false) M := rfl
theorem ev_bl {s : Bool} : den X (.bl s) e M = .ok (.bl s, false) M := rfl
theorem ev_non : den X .non e M = .ok (.non, false) M := rfl
theorem ev_var {i : Nat} (h : e[i]? = some (some (d, false))) : den X (.var i) e M = .ok (d, false) M := by simp [den, h, MM.pure]
theorem ev_bvar {i : Nat} {o : Bool} (h : e[i]? = some (some (d, o))) : den X (.bvar i) e M = .ok (d, false) M := by simp [den, h, MM.pure]
theorem ev_glob {i : Nat} (h : X.G i = some d) : den X (.glob i) e M = .ok (d, false) M := by simp [den, h, orBad]
theorem bind_of {α β : Type} {x : MM α} {f : α → MM β} {v : α} {r : R β} (h : x M = .ok v M1) (h2 : f v M1 = r) : MM.bind x f M = r := by unfold MM.bind; rw [h]; exact h2
theorem ev_bin {o : BOp} (ha : den X a e M = .ok (x, o1) M1) (hb : den X b e M1 = .ok (y, o2) M2) (h : binO o x y = some d) : den X (.bin o a b) e M = .ok (d, freshBin o d) M2 :=
  bind_of ha (bind_of hb (by rw [h]; rfl))
theorem ev_cmp {o : COp} {t : Bool} (ha : den X a e M = .ok (x, o1) M1) (hb : den X b e M1 = .ok (y, o2) M2) (h : cmpO o x y = some t) : den X (.cmp o a b) e M = .ok (.bl t, false) M2 :=
  bind_of ha (bind_of hb (by
    have hn : cmpN o x y = none := by
      cases x <;> first | rfl | skip
      cases y <;> first | rfl | skip
      exfalso
      cases o <;> simp [cmpO, eqO, inO, shp] at h
    show cmpM X.F o x y M2 = _
    unfold cmpM
    rw [hn, h]; rfl))
/-- == and != of instances -/
theorem ev_cmpI {o : COp} {n : Nat} {neg t : Bool} (ha : den X a e M = .ok (x, o1) M1) (hb : den X b e M1 = .ok (y, o2) M2) (hn : cmpN o x y = some (n, neg)) (h : X.F n [x, y] M2 = .ok (.bl t, o3) M3) : den X (.cmp o a b) e M = .ok (.bl (neg != t), false) M3 :=
  bind_of ha (bind_of hb (by
    show cmpM X.F o x y M2 = _
    unfold cmpM
    rw [hn]
    exact bind_of (noExc_of h) rfl))
theorem ev_not {t : Bool} (ha : den X a e M = .ok (.bl t, o1) M1) : den X (.not a) e M = .ok (.bl (!t), false) M1 := bind_of ha rfl
theorem ev_neg {t : Int} (ha : den X a e M = .ok (.int t, o1) M1) : den X (.neg a) e M = .ok (.int (-t), false) M1 := bind_of ha rfl
theorem ev_andF (ha : den X a e M = .ok (.bl false, o1) M1) : den X (.and a b) e M = .ok (.bl false, false) M1 := bind_of ha rfl
theorem ev_andT {t : Bool} (ha : den X a e M = .ok (.bl true, o1) M1) (hb : den X b e M1 = .ok (.bl t, o2) M2) : den X (.and a b) e M = .ok (.bl t, false) M2 := bind_of ha (bind_of hb rfl)
theorem ev_orT (ha : den X a e M = .ok (.bl true, o1) M1) : den X (.or a b) e M = .ok (.bl true, false) M1 := bind_of ha rfl
theorem ev_orF {t : Bool} (ha : den X a e M = .ok (.bl false, o1) M1) (hb : den X b e M1 = .ok (.bl t, o2) M2) : den X (.or a b) e M = .ok (.bl t, false) M2 := bind_of ha (bind_of hb rfl)
theorem ev_iteT {r : R (D × Bool)} (ha : den X c e M = .ok (.bl true, o1) M1) (hb : den X a e M1 = r) : den X (.ite c a b) e M = r := bind_of ha hb
theorem ev_iteF {r : R (D × Bool)} (ha : den X c e M = .ok (.bl false, o1) M1) (hb : den X b e M1 = r) : den X (.ite c a b) e M = r := bind_of ha hb
theorem evl_nil : denL X [] e M = .ok [] M := rfl
theorem evl_cons (ha : den X a e M = .ok (x, o1) M1) (hb : denL X cs e M1 = .ok ds M2) : denL X (a :: cs) e M = .ok (x :: ds) M2 := bind_of ha (bind_of hb rfl)
theorem ev_tup (h : denL X es e M = .ok ds M1) : den X (.tup es) e M = .ok (.tup ds, false) M1 := bind_of h rfl
theorem ev_lst (h : denL X es e M = .ok ds M1) : den X (.lst es) e M = .ok (.lst ds, true) M1 := bind_of h rfl
theorem ev_mkmut (h : denL X es e M = .ok ds M1) : den X (.mkmut es) e M = .ok (.mtb M1.length, false) (M1 ++ [.lst ds]) := bind_of h rfl
theorem ev_bi {f : Bi} (h : denL X es e M = .ok ds M1) (hb : biO X.rp f ds = some d) : den X (.bi f es) e M = .ok (d, freshBi f) M1 := bind_of h (by rw [hb]; rfl)
theorem ev_idx (ha : den X a e M = .ok (x, o1) M1) (hb : den X b e M1 = .ok (y, o2) M2) (h : (match x with | .mtb _ => none | x => idxO x y) = some d) : den X (.idx a b) e M = .ok (d, false) M2 :=
  bind_of ha (bind_of hb (by
    cases x <;> first | (cases h; done) | skip
    all_goals
      dsimp only at h ⊢
      rw [h]; rfl))
theorem ev_midx {n : Nat} {l : List D} (ha : den X a e M = .ok (.mtb n, o1) M1) (hb : den X b e M1 = .ok (y, o2) M2) (hM : M2[n]? = some (.lst l)) (h : idxO (.lst l) y = some d) : den X (.idx a b) e M = .ok (d, false) M2 :=
  bind_of ha (bind_of hb (by
    show (match M2[n]? with | some (.lst l) => orBad ((idxO (.lst l) y).map fun d => (d, false)) M2 | _ => .bad) = _
    rw [hM]
    show orBad ((idxO (.lst l) y).map fun d => (d, false)) M2 = _
    rw [h]; rfl))
theorem ev_call {f : Nat} {r : R (D × Bool)} (h : denL X es e M = .ok ds M1) (hf : X.F f ds M1 = r) : den X (.call f es) e M = r := bind_of h hf
theorem ev_callp {f : Nat} {pm : List Nat} {ds' : List D} {r : R (D × Bool)} (h : denL X es e M = .ok ds M1) (hp : mapO (fun i => ds[i]?) pm = some ds') (hf : X.F f ds' M1 = r) : den X (.callp f es pm) e M = r := bind_of h (by rw [hp]; exact hf)
theorem ev_isi {t : Ty} {q : Bool} (ha : den X a e M = .ok (x, o1) M1) (h : isO x t = some q) : den X (.isi a t) e M = .ok (.bl q, false) M1 := bind_of ha (by rw [h]; rfl)
theorem st_cons {s : S} {ss : List S} {r : R Fl} (h : denS X s e M = .ok (.nx e') M1) (h2 : denSs X ss e' M1 = r) : denSs X (s :: ss) e M = r := bind_of h h2
theorem st_stop {s : S} {ss : List S} {q : Bool} (h : denS X s e M = .ok (.rt d q) M1) : denSs X (s :: ss) e M = .ok (.rt d q) M1 := bind_of h rfl
theorem st_nil : denSs X [] e M = .ok (.nx e) M := rfl
theorem st_set {i : Nat} {k : Bool} (h : den X a e M = .ok (d, o1) M1) : denS X (.set i k a) e M = .ok (.nx (e.set i (some (d, k && o1)))) M1 := bind_of h rfl
theorem st_ret (h : den X a e M = .ok (d, o1) M1) : denS X (.ret a) e M = .ok (.rt d o1) M1 := bind_of h rfl
theorem st_ex (h : den X a e M = .ok (d, o1) M1) : denS X (.expr a) e M = .ok (.nx e) M1 := bind_of h rfl
theorem st_iteT {p q : List S} {r : R Fl} (h : den X c e M = .ok (.bl true, o1) M1) (h2 : denSs X p e M1 = r) : denS X (.ite c p q) e M = r := bind_of h h2
theorem st_iteF {p q : List S} {r : R Fl} (h : den X c e M = .ok (.bl false, o1) M1) (h2 : denSs X q e M1 = r) : denS X (.ite c p q) e M = r := bind_of h h2
theorem st_msub {n : Nat} {l l' : List D} {k v : C} (hv : den X v e M = .ok (d, o1) M1) (ha : den X a e M1 = .ok (.mtb n, o2) M2) (hk : den X k e M2 = .ok (y, o3) M3) (hM : M3[n]? = some (.lst l)) (hp : putO (.lst l) y d = some (.lst l')) :
    denS X (.asg (.msub a k) v) e M = .ok (.nx e) (M3.set n (.lst l')) :=
  bind_of hv (bind_of (bind_of ha (bind_of hk (by
    show mput n y d e M3 = .ok e (M3.set n (.lst l'))
    unfold mput
    rw [hM]
    dsimp only
    rw [hp]))) rfl)
/-- a loop that goes through -/
theorem forL_all {step : D → Env → MM Fl} (I : Nat → Env → Mem → Prop) : ∀ {items : List D} {i : Nat} {e : Env} {M : Mem}, I i e M → (∀ j d e M, items[j]? = some d → I (i + j) e M → ∃ e' M', step d e M = .ok (.nx e') M' ∧ I (i + j + 1) e' M') →
    ∃ e' M', forL step items e M = .ok (.nx e') M' ∧ I (i + items.length) e' M'
  | [], i, e, M, h, _ => ⟨e, M, rfl, h⟩
  | d :: r, i, e, M, h, hs => by
    obtain ⟨e1, M1, h1, h2⟩ := hs 0 d e M rfl h
    obtain ⟨e2, M2, h3, h4⟩ := forL_all I (items := r) (i := i + 1) (e := e1) (M := M1) h2 fun j d' e' M' hj hi => by
      have := hs (j + 1) d' e' M' (by simpa using hj) (by rw [show i + (j + 1) = i + 1 + j by omega]; exact hi)
      rw [show i + (j + 1) + 1 = i + 1 + j + 1 by omega] at this
      exact this
    refine ⟨e2, M2, ?_, by rw [show i + (d :: r).length = i + 1 + r.length by simp; omega]; exact h4⟩
    exact bind_of h1 h3
theorem st_for {t : Tn} {k : ItK} {as : List C} {b : List S} {items : List D} {r : R Fl} (h : denL X as e M = .ok ds M1) (hi : itO k ds = some items)
    (h2 : forL (fun d e => match bindT false t d e with
      | some e' => denSs X b e'
      | none => bad) items e M1 = r) : denS X (.for_ t k as b) e M = r := bind_of h (by rw [hi]; exact h2)
end
theorem fn_run {X : Ctx} {f : Fn} {ds : List D} {M M1 : Mem} {d : D} {o : Bool} (hl : ds.length = f.p) (hq : f.q = 0) (h : denSs X f.body (ds.map (fun d => some (d, false)) ++ List.replicate (f.n - f.p) none) M = .ok (.rt d o) M1) : fnRun X f ds M = .ok (d, o) M1 := by
  unfold fnRun
  rw [if_pos hl, hq]
  exact bind_of h rfl
/-! the jar -/
def fDip : Fn := ⟨4, 2, [(.asg (.msub (.var 0) (.int 2)) (.bin .add (.idx (.var 0) (.int 2)) (.int 1))), (.ite (.cmp .gt (.idx (.var 0) (.int 0)) (.int 0)) [(.set 2 false (.bin .mod (.bi .int [(.idx (.var 0) (.int 0))]) (.var 1))), (.asg (.msub (.var 0) (.int 0)) (.bin .fdiv (.bi .int [(.idx (.var 0) (.int 0))]) (.var 1))), (.ret (.var 2))] []), (.set 3 false (.bi .int [(.idx (.var 0) (.int 1))])), (.asg (.msub (.var 0) (.int 1)) (.bin .mod (.bi .int [(.bin .add (.bin .add (.bin .mul (.var 3) (.int 40692)) (.bin .mul (.idx (.var 0) (.int 2)) (.int 52021))) (.int 31))]) (.int 2147483399))), (.ret (.bin .mod (.bi .int [(.bin .fdiv (.idx (.var 0) (.int 1)) (.int 2048))]) (.var 1)))], 0⟩
/-- a jar that stands at n in the store -/
def Jar (M : Mem) (n : Nat) (q : Int) : Prop := ∃ a b c : Int, M[n]? = some (.lst [.int a, .int b, .int c]) ∧ 0 ≤ b ∧ b < 2147483648 ∧ 0 ≤ c ∧ c ≤ q
theorem log2_small {i : Int} {m : Nat} (h : i.natAbs < 2 ^ m) : i.natAbs.log2 ≤ m := by
  by_cases e : i.natAbs = 0
  · rw [e]; simp
  · exact Nat.le_of_lt ((Nat.log2_lt e).mpr h)
theorem mul_small {i j : Int} (h : i.natAbs < 2 ^ 62) (h2 : j.natAbs < 2 ^ 62) : mulOk i j = true := by
  have := log2_small h
  have := log2_small h2
  simp [mulOk]
  omega
theorem dip_eq {X : Ctx} {n : Nat} {many : Int} {M : Mem} {q : Int} (h : Jar M n q) (h1 : 0 < many) (h2 : many < 1000000) (hq : q < 1000000000) :
    ∃ r M', 0 ≤ r ∧ r < many ∧ fnRun X fDip [.mtb n, .int many] M = .ok (.int r, false) M' ∧ M'.length = M.length ∧ Jar M' n (q + 1) := by
  obtain ⟨a, b, c, hM, b0, b1, c0, c1⟩ := h
  have hn : n < M.length := (List.getElem?_eq_some_iff.mp hM).1
  have s1 : ∀ M : Mem, M[n]? = some (.lst [.int a, .int b, .int c]) → denS X (.asg (.msub (.var 0) (.int 2)) (.bin .add (.idx (.var 0) (.int 2)) (.int 1))) [some (.mtb n, false), some (.int many, false), none, none] M =
      .ok (.nx [some (.mtb n, false), some (.int many, false), none, none]) (M.set n (.lst [.int a, .int b, .int (c + 1)])) := fun M hM =>
    st_msub (d := .int (c + 1)) (y := .int 2) (ev_bin (ev_midx (ev_var rfl) ev_int hM rfl) ev_int rfl) (ev_var rfl) ev_int hM rfl
  have hM1 : (M.set n (.lst [.int a, .int b, .int (c + 1)]))[n]? = some (.lst [.int a, .int b, .int (c + 1)]) := List.getElem?_set_self hn
  by_cases ha : 0 < a
  · refine ⟨a % many, (M.set n (.lst [.int a, .int b, .int (c + 1)])).set n (.lst [.int (a / many), .int b, .int (c + 1)]), Int.emod_nonneg _ (by omega), Int.emod_lt_of_pos _ h1, ?_, by simp, ⟨a / many, b, c + 1, by rw [List.getElem?_set_self (by simpa using hn)], b0, b1, by omega, by omega⟩⟩
    refine fn_run rfl rfl (st_cons (s1 M hM) (st_stop (st_iteT (ev_cmp (t := true) (ev_midx (ev_var rfl) ev_int hM1 rfl) ev_int ?_) ?_)))
    · show some (decide (0 < a)) = some true
      rw [decide_eq_true ha]
    · refine st_cons (st_set (ev_bin (d := .int (a % many)) (ev_bi (evl_cons (ev_midx (ev_var rfl) ev_int hM1 rfl) evl_nil) rfl) (ev_var rfl) ?_)) (st_cons (st_msub (d := .int (a / many)) (y := .int 0) (ev_bin (ev_bi (evl_cons (ev_midx (ev_var rfl) ev_int hM1 rfl) evl_nil) rfl) (ev_var rfl) ?_) (ev_var rfl) ev_int hM1 rfl) (st_stop (st_ret (ev_var rfl))))
      · show (if 0 < many then some (D.int (a % many)) else none) = _
        rw [if_pos h1]
      · show (if (0 < many && many < 1073741824) = true then some (D.int (a / many)) else none) = _
        rw [if_pos (by simp; omega)]
  · obtain ⟨b', hb'⟩ : ∃ b', b' = (b * 40692 + (c + 1) * 52021 + 31) % 2147483399 := ⟨_, rfl⟩
    have hM2 : ((M.set n (.lst [.int a, .int b, .int (c + 1)])).set n (.lst [.int a, .int b', .int (c + 1)]))[n]? = some (.lst [.int a, .int b', .int (c + 1)]) := List.getElem?_set_self (by simpa using hn)
    have b'0 : 0 ≤ b' := by rw [hb']; exact Int.emod_nonneg _ (by omega)
    have b'1 : b' < 2147483399 := by rw [hb']; exact Int.emod_lt_of_pos _ (by omega)
    refine ⟨b' / 2048 % many, (M.set n (.lst [.int a, .int b, .int (c + 1)])).set n (.lst [.int a, .int b', .int (c + 1)]), Int.emod_nonneg _ (by omega), Int.emod_lt_of_pos _ h1, ?_, by simp, ⟨a, b', c + 1, hM2, b'0, by omega, by omega, by omega⟩⟩
    refine fn_run rfl rfl (st_cons (s1 M hM) (st_cons (st_iteF (ev_cmp (t := false) (ev_midx (ev_var rfl) ev_int hM1 rfl) ev_int ?_) st_nil) (st_cons (st_set (ev_bi (evl_cons (ev_midx (ev_var rfl) ev_int hM1 rfl) evl_nil) rfl))
      (st_cons (st_msub (d := .int b') (y := .int 1) (ev_bin (ev_bi (d := .int (b * 40692 + (c + 1) * 52021 + 31)) (evl_cons (ev_bin (d := .int (b * 40692 + (c + 1) * 52021 + 31)) (ev_bin (d := .int (b * 40692 + (c + 1) * 52021)) (ev_bin (d := .int (b * 40692)) (ev_var rfl) ev_int ?_) (ev_bin (d := .int ((c + 1) * 52021)) (ev_midx (ev_var rfl) ev_int hM1 rfl) ev_int ?_) rfl) ev_int rfl) evl_nil) rfl) ev_int ?_) (ev_var rfl) ev_int hM1 rfl)
        (st_stop (st_ret (ev_bin (d := .int (b' / 2048 % many)) (ev_bi (evl_cons (ev_bin (d := .int (b' / 2048)) (ev_midx (ev_var rfl) ev_int hM2 rfl) ev_int ?_) evl_nil) rfl) (ev_var rfl) ?_)))))))
    · show some (decide (0 < a)) = some false
      rw [decide_eq_false ha]
    · show (if mulOk b 40692 = true then some (D.int (b * 40692)) else none) = _
      rw [if_pos (mul_small (by omega) (by omega))]
    · show (if mulOk (c + 1) 52021 = true then some (D.int ((c + 1) * 52021)) else none) = _
      rw [if_pos (mul_small (by omega) (by omega))]
    · show (if (0 : Int) < 2147483399 then some (D.int ((b * 40692 + (c + 1) * 52021 + 31) % 2147483399)) else none) = _
      rw [if_pos (by omega), hb']
    · show (if ((0 : Int) < 2048 && (2048 : Int) < 1073741824) = true then some (D.int (b' / 2048)) else none) = _
      rw [if_pos (by decide)]
    · show (if 0 < many then some (D.int (b' / 2048 % many)) else none) = _
      rw [if_pos h1]
end MP
end

section
set_option linter.all false
set_option Elab.async false
set_option maxRecDepth 100000
set_option maxHeartbeats 4000000
namespace MP
/-! evaluation, further: tests left open, loops as lists -/
section
variable {X : Ctx} {e e' : Env} {M M1 M2 M3 : Mem} {a b c : C} {x y d : D} {o1 o2 o3 : Bool} {es cs : List C} {ds : List D}
theorem ev_bin' {o : BOp} (ha : den X a e M = .ok (x, o1) M1) (hb : den X b e M1 = .ok (y, o2) M2) (h : binO o x y = some d) (hf : freshBin o d = o3) : den X (.bin o a b) e M = .ok (d, o3) M2 := by
  subst hf; exact ev_bin ha hb h
theorem ev_bi' {f : Bi} (h : denL X es e M = .ok ds M1) (hb : biO X.rp f ds = some d) (hf : freshBi f = o3) : den X (.bi f es) e M = .ok (d, o3) M1 := by
  subst hf; exact ev_bi h hb
theorem ev_and {p q : Bool} (ha : den X a e M = .ok (.bl p, o1) M1) (hb : p = true → den X b e M1 = .ok (.bl q, o2) M1) : den X (.and a b) e M = .ok (.bl (p && q), false) M1 := by
  cases p with
  | true => exact ev_andT ha (hb rfl)
  | false => exact ev_andF ha
theorem ev_or {p q : Bool} (ha : den X a e M = .ok (.bl p, o1) M1) (hb : p = false → den X b e M1 = .ok (.bl q, o2) M1) : den X (.or a b) e M = .ok (.bl (p || q), false) M1 := by
  cases p with
  | true => exact ev_orT ha
  | false => exact ev_orF ha (hb rfl)
theorem ev_iteI {p : Bool} {i j : Int} (hc : den X c e M = .ok (.bl p, o3) M1) (ha : p = true → den X a e M1 = .ok (.int i, false) M1) (hb : p = false → den X b e M1 = .ok (.int j, false) M1) : den X (.ite c a b) e M = .ok (.int (if p then i else j), false) M1 := by
  cases p with
  | true => exact ev_iteT hc (ha rfl)
  | false => exact ev_iteF hc (hb rfl)
theorem ev_iteS {p : Bool} {i j : List Nat} (hc : den X c e M = .ok (.bl p, o3) M1) (ha : p = true → den X a e M1 = .ok (.str i, false) M1) (hb : p = false → den X b e M1 = .ok (.str j, false) M1) : den X (.ite c a b) e M = .ok (.str (if p then i else j), false) M1 := by
  cases p with
  | true => exact ev_iteT hc (ha rfl)
  | false => exact ev_iteF hc (hb rfl)
theorem ev_iteD {p : Bool} {i j : D} (hc : den X c e M = .ok (.bl p, o3) M1) (ha : p = true → den X a e M1 = .ok (i, false) M1) (hb : p = false → den X b e M1 = .ok (j, false) M1) : den X (.ite c a b) e M = .ok ((if p then i else j), false) M1 := by
  cases p with
  | true => exact ev_iteT hc (ha rfl)
  | false => exact ev_iteF hc (hb rfl)
theorem ss_app : ∀ {p : List S} {ss : List S} {e : Env} {M : Mem}, denSs X (p ++ ss) e M = MM.bind (denSs X p e) (fun f => match f with
    | .nx e' => denSs X ss e'
    | .rt d o => MM.pure (.rt d o)) M
  | [], ss, e, M => rfl
  | s :: p, ss, e, M => by
    have h1 : denSs X ((s :: p) ++ ss) e M = MM.bind (denS X s e) (fun f => match f with
      | .nx e' => denSs X (p ++ ss) e'
      | .rt d o => MM.pure (.rt d o)) M := rfl
    have h2 : denSs X (s :: p) e = MM.bind (denS X s e) (fun f => match f with
      | .nx e' => denSs X p e'
      | .rt d o => MM.pure (.rt d o)) := rfl
    rw [h1, h2]
    unfold MM.bind
    cases denS X s e M with
    | ok f M1 =>
      cases f with
      | nx e' =>
        have := ss_app (p := p) (ss := ss) (e := e') (M := M1)
        exact this
      | rt d o => rfl
    | exc c p M1 => rfl
    | bad => rfl
/-- an if, the rest of the block behind each branch -/
theorem ss_ite {p q ss : List S} {t : Bool} {r : R Fl} (hc : den X c e M = .ok (.bl t, o1) M1) (h1 : t = true → denSs X (p ++ ss) e M1 = r) (h2 : t = false → denSs X (q ++ ss) e M1 = r) : denSs X (.ite c p q :: ss) e M = r := by
  have : ∀ b : List S, denS X (.ite c p q) e M = denSs X b e M1 → denSs X (.ite c p q :: ss) e M = denSs X (b ++ ss) e M1 := by
    intro b hb
    rw [ss_app]
    have h1 : denSs X (.ite c p q :: ss) e M = MM.bind (denS X (.ite c p q) e) (fun f => match f with
      | .nx e' => denSs X ss e'
      | .rt d o => MM.pure (.rt d o)) M := rfl
    rw [h1]
    unfold MM.bind
    rw [hb]
  cases t with
  | true => rw [this p (st_iteT hc rfl)]; exact h1 rfl
  | false => rw [this q (st_iteF hc rfl)]; exact h2 rfl
theorem ev_chainT {o o' : COp} {t : Bool} {z : D} (ha : den X a e M = .ok (x, o1) M1) (hb : den X b e M1 = .ok (y, o2) M2) (h : cmpO o x y = some true) (hc : den X c e M2 = .ok (z, o3) M3) (h' : cmpO o' y z = some t) : den X (.chain o o' a b c) e M = .ok (.bl t, false) M3 :=
  bind_of ha (bind_of hb (by
    dsimp only
    rw [h]
    exact bind_of hc (by rw [h']; rfl)))
theorem ev_chainF {o o' : COp} (ha : den X a e M = .ok (x, o1) M1) (hb : den X b e M1 = .ok (y, o2) M2) (h : cmpO o x y = some false) : den X (.chain o o' a b c) e M = .ok (.bl false, false) M2 :=
  bind_of ha (bind_of hb (by
    dsimp only
    rw [h]; rfl))
theorem ev_chain {o o' : COp} {p t : Bool} {z : D} (ha : den X a e M = .ok (x, o1) M1) (hb : den X b e M1 = .ok (y, o2) M2) (h : cmpO o x y = some p) (hc : p = true → den X c e M2 = .ok (z, o3) M2) (h' : p = true → cmpO o' y z = some t) : den X (.chain o o' a b c) e M = .ok (.bl (p && t), false) M2 := by
  cases p with
  | true => exact ev_chainT ha hb h (hc rfl) (h' rfl)
  | false => exact ev_chainF ha hb h
def isL : D → Bool
  | .lst _ => true
  | _ => false
theorem ev_slc {lo hi : C} {u v : D} (ha : den X a e M = .ok (x, o1) M1) (hb : den X lo e M1 = .ok (u, o2) M2) (hp : partOk lo u = true) (hc : den X hi e M2 = .ok (v, o3) M3) (hq : partOk hi v = true) (h : slcO x u v = some d) {o : Bool} (ho : isL d = o) : den X (.slc a lo hi) e M = .ok (d, o) M3 := by
  subst ho
  exact bind_of ha (bind_of hb (by
    dsimp only
    rw [if_pos hp]
    exact bind_of hc (by
      dsimp only
      rw [if_pos hq, h]; cases d <;> rfl)))
theorem ev_mth {mt : Mt} (ha : den X a e M = .ok (x, o1) M1) (hr : rcv mt x = true) (hb : denL X es e M1 = .ok ds M2) (h : mthO mt x ds = some d) {o : Bool} (ho : isL d = o) : den X (.mth mt a es) e M = .ok (d, o) M2 := by
  subst ho
  exact bind_of ha (by
    dsimp only
    rw [if_pos hr]
    exact bind_of hb (by rw [h]; cases d <;> rfl))
theorem evt_nil : denT X [] e M = .ok true M := rfl
theorem evt_one {t : Bool} (h : den X a e M = .ok (.bl t, o1) M1) : denT X [a] e M = .ok t M1 := bind_of h (by cases t <;> rfl)
/-- a comprehension that changes nothing: a filter and a map -/
theorem loopL_pure {α : Type} (g : α → D) (p : α → Bool) (h : α → D) {step : D → List D → MM (List D)} : ∀ (xs : List α) (acc : List D), (∀ x ∈ xs, ∀ acc : List D, acc.length < szLine → step (g x) acc M = .ok (if p x then acc ++ [h x] else acc) M) → acc.length + xs.length ≤ szLine →
    loopL step (xs.map g) acc M = .ok (acc ++ (xs.filter p).map h) M
  | [], acc, _, _ => by show R.ok acc M = _; simp
  | x :: xs, acc, hs, hl => by
    have h1 := hs x (by simp) acc (by simp at hl; omega)
    show MM.bind (step (g x) acc) _ M = _
    refine bind_of h1 ?_
    have ih := fun acc' hh => loopL_pure g p h (step := step) xs acc' (fun y hy => hs y (by simp [hy])) hh
    cases hp : p x with
    | true =>
      simp only [hp, if_true]
      rw [ih _ (by simp at hl ⊢; omega)]
      simp [hp]
    | false =>
      simp only [hp, Bool.false_eq_true, if_false]
      rw [ih _ (by simp at hl ⊢; omega)]
      simp [hp]
theorem ev_lc {α : Type} (xs : List α) (g : α → D) (p : α → Bool) (h : α → D) {t : Tn} {k : ItK} {as cond : List C} {own : List Nat} (ex : α → Env) (he : denL X as e M = .ok ds M1) (hi : itO k ds = some (xs.map g)) (hl : xs.length ≤ szLine)
    (hb : ∀ x ∈ xs, bindT false t (g x) (wipeE e own) = some (ex x)) (hc : ∀ x ∈ xs, denT X cond (ex x) M1 = .ok (p x) M1) (hel : ∀ x ∈ xs, p x = true → ∃ o, den X a (ex x) M1 = .ok (h x, o) M1) :
    den X (.lc a t k as cond own) e M = .ok (.lst ((xs.filter p).map h), true) M1 := by
  refine bind_of he ?_
  rw [hi]
  refine bind_of (noExc_of (a := (xs.filter p).map h) (M' := M1) ?_) rfl
  have := loopL_pure (M := M1) g p h (step := fun d acc => match bindT false t d (wipeE e own) with
        | none => bad
        | some e' => MM.bind (denT X cond e') fun b => if b then MM.bind (den X a e') fun y => if acc.length < szLine then MM.pure (acc ++ [y.1]) else bad else MM.pure acc) xs [] ?_ (by simpa using hl)
  · rw [List.nil_append] at this; exact this
  · intro x hx acc hacc
    rw [hb x hx]
    dsimp only
    refine bind_of (hc x hx) ?_
    cases hp : p x with
    | true =>
      obtain ⟨o, hd⟩ := hel x hx hp
      rw [if_pos rfl]
      refine bind_of hd ?_
      rw [if_pos hacc]; rfl
    | false => rfl
/-- a comprehension without a test -/
theorem ev_map {α : Type} (xs : List α) (g : α → D) (h : α → D) {t : Tn} {k : ItK} {as : List C} {own : List Nat} (ex : α → Env) (he : denL X as e M = .ok ds M1) (hi : itO k ds = some (xs.map g)) (hl : xs.length ≤ szLine)
    (hb : ∀ x ∈ xs, bindT false t (g x) (wipeE e own) = some (ex x)) (hel : ∀ x ∈ xs, ∃ o, den X a (ex x) M1 = .ok (h x, o) M1) :
    den X (.lc a t k as [] own) e M = .ok (.lst (xs.map h), true) M1 := by
  have := ev_lc (X := X) (a := a) xs g (fun _ => true) h (cond := []) ex he hi hl hb (fun _ _ => rfl) (fun x hx _ => hel x hx)
  rw [List.filter_eq_self.mpr (fun _ _ => rfl)] at this
  exact this
end
/-! answers of operations, by kinds -/
theorem bi_addI {i j : Int} : binO .add (.int i) (.int j) = some (.int (i + j)) := rfl
theorem bi_subI {i j : Int} : binO .sub (.int i) (.int j) = some (.int (i - j)) := rfl
theorem bi_mulI {i j : Int} (h : mulOk i j = true) : binO .mul (.int i) (.int j) = some (.int (i * j)) := if_pos h
theorem bi_modI {i j : Int} (h : 0 < j) : binO .mod (.int i) (.int j) = some (.int (i % j)) := if_pos h
theorem bi_divI {i j : Int} (h : 0 < j) (h2 : j < 1073741824) : binO .fdiv (.int i) (.int j) = some (.int (i / j)) := if_pos (by simp [h, h2])
theorem bi_addS {s t : List Nat} (h : s.length + t.length ≤ szLine) : binO .add (.str s) (.str t) = some (.str (s ++ t)) := if_pos h
theorem bi_addL {s t : List D} (h : s.length + t.length ≤ szLine) : binO .add (.lst s) (.lst t) = some (.lst (s ++ t)) := if_pos h
theorem bi_addT {s t : List D} (h : s.length + t.length ≤ szLine) : binO .add (.tup s) (.tup t) = some (.tup (s ++ t)) := if_pos h
theorem cm_eqI {i j : Int} : cmpO .eq (.int i) (.int j) = some (i == j) := rfl
theorem cm_neI {i j : Int} : cmpO .ne (.int i) (.int j) = some (!(i == j)) := rfl
theorem cm_eqS {i j : List Nat} : cmpO .eq (.str i) (.str j) = some (i == j) := rfl
theorem cm_neS {i j : List Nat} : cmpO .ne (.str i) (.str j) = some (!(i == j)) := rfl
theorem cm_eqB {i j : Bool} : cmpO .eq (.bl i) (.bl j) = some (i == j) := rfl
theorem cm_neB {i j : Bool} : cmpO .ne (.bl i) (.bl j) = some (!(i == j)) := rfl
theorem cm_ltI {i j : Int} : cmpO .lt (.int i) (.int j) = some (decide (i < j)) := rfl
theorem cm_leI {i j : Int} : cmpO .le (.int i) (.int j) = some (decide (i ≤ j)) := rfl
theorem cm_gtI {i j : Int} : cmpO .gt (.int i) (.int j) = some (decide (j < i)) := rfl
theorem cm_geI {i j : Int} : cmpO .ge (.int i) (.int j) = some (decide (j ≤ i)) := rfl
theorem shp_mono' : ∀ {m n : Nat} {d : D}, m ≤ n → shp m d = true → shp n d = true := by
  intro m n d h
  induction n generalizing m d with
  | zero => have : m = 0 := by omega
            subst this; exact id
  | succ n ih =>
    intro hs
    cases d <;> first | rfl | (cases m <;> simp [shp] at hs; done) | skip
    all_goals
      cases m with
      | zero => simp [shp] at hs
      | succ m =>
        simp only [shp, List.all_eq_true] at hs ⊢
        exact fun x hx => ih (Nat.le_of_succ_le_succ h) (hs x hx)
theorem cm_eqD {x y : D} (hx : shp 16 x = true) (hy : shp 16 y = true) : cmpO .eq x y = some (eqD x y) := by
  show eqO x y = _
  unfold eqO
  rw [hx, hy]; rfl
theorem cm_neD {x y : D} (hx : shp 16 x = true) (hy : shp 16 y = true) : cmpO .ne x y = some (!eqD x y) := by
  show (eqO x y).map (!·) = _
  rw [show eqO x y = some (eqD x y) from cm_eqD hx hy]; rfl
/-- texts alone -/
def dStr (s : List Nat) : D := .str s
theorem eqDs_strs : ∀ (xs ys : List (List Nat)), eqDs (xs.map .str) (ys.map .str) = (xs == ys)
  | [], [] => rfl
  | [], _ :: _ => rfl
  | _ :: _, [] => rfl
  | x :: xs, y :: ys => by
    show ((x == y) && eqDs _ _) = _
    rw [eqDs_strs xs ys]; rfl
theorem any_str (x : List Nat) : ∀ xs : List (List Nat), ((xs.map D.str).any fun z => eqD z (.str x)) = xs.contains x
  | [] => rfl
  | y :: xs => by
    rw [List.map_cons, List.any_cons, any_str x xs, List.contains_cons]
    show ((y == x) || _) = _
    rw [Bool.beq_comm]
theorem shp_strs (n : Nat) (xs : List (List Nat)) : (xs.map D.str).all (shp n) = true := by
  rw [List.all_eq_true]
  intro d hd
  obtain ⟨s, _, rfl⟩ := List.mem_map.mp hd
  cases n <;> rfl
theorem in_strL {x : List Nat} {xs : List (List Nat)} : cmpO .inn (.str x) (.lst (xs.map .str)) = some (xs.contains x) := by
  show inO (.str x) (.lst (xs.map .str)) = _
  unfold inO
  dsimp only
  rw [if_pos (by rw [shp_strs]; rfl), any_str]
theorem in_strT {x : List Nat} {xs : List (List Nat)} : cmpO .inn (.str x) (.tup (xs.map .str)) = some (xs.contains x) := by
  show inO (.str x) (.tup (xs.map .str)) = _
  unfold inO
  dsimp only
  rw [if_pos (by rw [shp_strs]; rfl), any_str]
theorem all_bls {α : Type} (p : α → Bool) : ∀ xs : List α, mapO unBl (xs.map fun x => D.bl (p x)) = some (xs.map p)
  | [] => rfl
  | x :: xs => by
    rw [List.map_cons, mapO, all_bls p xs]; rfl
theorem bi_all {α : Type} {r : D → Option (List Nat)} (p : α → Bool) (xs : List α) : biO r .all [.lst (xs.map fun x => D.bl (p x))] = some (.bl (xs.all p)) := by
  show (mapO unBl _).map _ = _
  rw [all_bls]
  simp [List.all_map]
theorem bi_any {α : Type} {r : D → Option (List Nat)} (p : α → Bool) (xs : List α) : biO r .any [.lst (xs.map fun x => D.bl (p x))] = some (.bl (xs.any p)) := by
  show (mapO unBl _).map _ = _
  rw [all_bls]
  simp [List.any_map]
/-! what holds behind -/
def Wp {α : Type} (r : R α) (Q : α → Mem → Prop) : Prop := ∃ a m, r = .ok a m ∧ Q a m
theorem Wp.ok {α : Type} {r : R α} {Q : α → Mem → Prop} {a : α} {m : Mem} (h : r = .ok a m) (q : Q a m) : Wp r Q := ⟨a, m, h, q⟩
theorem Wp.imp {α : Type} {r : R α} {Q Q' : α → Mem → Prop} (h : Wp r Q) (f : ∀ a m, Q a m → Q' a m) : Wp r Q' := let ⟨a, m, e, q⟩ := h; ⟨a, m, e, f a m q⟩
theorem Wp.eq {α : Type} {r : R α} {a : α} {m : Mem} (h : Wp r fun b m' => b = a ∧ m' = m) : r = .ok a m := by
  obtain ⟨b, m', e, rfl, rfl⟩ := h; exact e
section
variable {X : Ctx} {e e' : Env} {M M1 M2 M3 : Mem} {a b c : C} {x y d : D} {o1 o2 o3 : Bool} {es cs : List C} {ds : List D} {Q : Fl → Mem → Prop}
theorem w_cons {s : S} {ss : List S} (h : denS X s e M = .ok (.nx e') M1) (h2 : Wp (denSs X ss e' M1) Q) : Wp (denSs X (s :: ss) e M) Q := by rw [st_cons h rfl]; exact h2
theorem w_set {i : Nat} {k : Bool} {ss : List S} (h : den X a e M = .ok (d, o1) M1) (h2 : Wp (denSs X ss (e.set i (some (d, k && o1))) M1) Q) : Wp (denSs X (.set i k a :: ss) e M) Q := w_cons (st_set h) h2
theorem w_ex {ss : List S} (h : den X a e M = .ok (d, o1) M1) (h2 : Wp (denSs X ss e M1) Q) : Wp (denSs X (.expr a :: ss) e M) Q := w_cons (st_ex h) h2
theorem w_ret {ss : List S} (h : den X a e M = .ok (d, o1) M1) (h2 : Q (.rt d o1) M1) : Wp (denSs X (.ret a :: ss) e M) Q := ⟨_, _, st_stop (st_ret h), h2⟩
theorem w_nil (h : Q (.nx e) M) : Wp (denSs X [] e M) Q := ⟨_, _, st_nil, h⟩
theorem w_ite {p q ss : List S} {t : Bool} (hc : den X c e M = .ok (.bl t, o1) M1) (h1 : t = true → Wp (denSs X (p ++ ss) e M1) Q) (h2 : t = false → Wp (denSs X (q ++ ss) e M1) Q) : Wp (denSs X (.ite c p q :: ss) e M) Q := by
  cases t with
  | true => obtain ⟨a, m, h, hq⟩ := h1 rfl; exact ⟨a, m, ss_ite hc (fun _ => h) (fun z => nomatch z), hq⟩
  | false => obtain ⟨a, m, h, hq⟩ := h2 rfl; exact ⟨a, m, ss_ite hc (fun z => nomatch z) (fun _ => h), hq⟩
theorem st_par {l : List (Nat × Bool)} {xs : List (D × Bool)} (h : denO X cs e M = .ok xs M1) (hl : xs.length = l.length) : denS X (.par l cs) e M = .ok (.nx (setAll l xs e)) M1 := bind_of h (by rw [if_pos hl]; rfl)
theorem evo_nil : denO X [] e M = .ok [] M := rfl
theorem evo_cons {x : D × Bool} {xs : List (D × Bool)} (h : den X c e M = .ok x M1) (h2 : denO X cs e M1 = .ok xs M2) : denO X (c :: cs) e M = .ok (x :: xs) M2 := bind_of h (bind_of h2 rfl)
theorem w_par {l : List (Nat × Bool)} {xs : List (D × Bool)} {ss : List S} (h : denO X cs e M = .ok xs M1) (hl : xs.length = l.length) (h2 : Wp (denSs X ss (setAll l xs e) M1) Q) : Wp (denSs X (.par l cs :: ss) e M) Q := w_cons (st_par h hl) h2
/-- a for that goes through: what holds at each turn -/
theorem w_for {t : Tn} {k : ItK} {as : List C} {b ss : List S} {items : List D} (I : Nat → Env → Mem → Prop) (h : denL X as e M = .ok ds M1) (hi : itO k ds = some items) (h0 : I 0 e M1)
    (hs : ∀ (j : Nat) (d : D) (e : Env) (M : Mem), items[j]? = some d → I j e M → ∃ e1, bindT false t d e = some e1 ∧ Wp (denSs X b e1 M) (fun fl m => ∃ e', fl = .nx e' ∧ I (j + 1) e' m))
    (hk : ∀ e' M', I items.length e' M' → Wp (denSs X ss e' M') Q) : Wp (denSs X (.for_ t k as b :: ss) e M) Q := by
  obtain ⟨e', M', h1, h2⟩ := forL_all (step := fun d e => match bindT false t d e with
      | some e' => denSs X b e'
      | none => bad) I (items := items) (i := 0) (e := e) (M := M1) h0 fun j d e M hj hI => by
    rw [Nat.zero_add] at hI
    obtain ⟨e1, h1, fl, m, h2, e', rfl, h3⟩ := hs j d e M hj hI
    refine ⟨e', m, ?_, by rw [Nat.zero_add]; exact h3⟩
    rw [h1]; exact h2
  rw [Nat.zero_add] at h2
  exact w_cons (st_for h hi h1) (hk e' M' h2)
/-- the same where the turn's number does not matter -/
theorem w_for' {t : Tn} {k : ItK} {as : List C} {b ss : List S} {items : List D} (I : Env → Mem → Prop) (h : denL X as e M = .ok ds M1) (hi : itO k ds = some items) (h0 : I e M1)
    (hs : ∀ (d : D) (e : Env) (M : Mem), d ∈ items → I e M → ∃ e1, bindT false t d e = some e1 ∧ Wp (denSs X b e1 M) (fun fl m => ∃ e', fl = .nx e' ∧ I e' m))
    (hk : ∀ e' M', I e' M' → Wp (denSs X ss e' M') Q) : Wp (denSs X (.for_ t k as b :: ss) e M) Q :=
  w_for (fun _ => I) h hi h0 (fun j d e M hj hI => hs d e M (List.mem_of_getElem? hj) hI) hk
end
/-- what a def's body gives -/
def Ret (Q : D × Bool → Mem → Prop) : Fl → Mem → Prop := fun fl m => match fl with
  | .rt d o => Q (d, o) m
  | .nx _ => Q (.non, false) m
theorem w_fn {X : Ctx} {f : Fn} {ds : List D} {M : Mem} {Q : D × Bool → Mem → Prop} (hl : ds.length = f.p) (h : Wp (denSs X f.body (ds.map (fun d => some (d, false)) ++ List.replicate (f.n - f.p) none) M) (Ret Q)) (hq : f.q = 0 := by rfl) : Wp (fnRun X f ds M) Q := by
  obtain ⟨fl, m, h1, h2⟩ := h
  unfold fnRun
  rw [if_pos hl, hq]
  cases fl with
  | nx e' => exact ⟨_, m, bind_of h1 rfl, h2⟩
  | rt d o => exact ⟨_, m, bind_of h1 rfl, h2⟩
theorem ret_ok {d : D} {o : Bool} {M : Mem} : Ret (fun b m' => b = (d, o) ∧ m' = M) (.rt d o) M := ⟨rfl, rfl⟩
end MP
end

section
set_option linter.all false
set_option Elab.async false
set_option maxRecDepth 100000
set_option maxHeartbeats 4000000
namespace MP
/-- one step of an evaluation: hijacked words -/
local macro_rules | `(tactic| array_get_dec) => `(tactic| first
  | with_reducible exact ev_int
  | with_reducible exact ev_str
  | with_reducible exact ev_bl
  | with_reducible exact ev_non
  | (with_reducible apply ev_var)<;> rfl
  | (with_reducible apply ev_bvar)<;> rfl
  | (with_reducible apply ev_glob)<;> rfl
  | with_reducible exact evl_nil
  | with_reducible apply evl_cons
  | with_reducible apply ev_bin
  | with_reducible apply ev_cmp
  | with_reducible apply ev_not
  | with_reducible apply ev_neg
  | with_reducible apply ev_tup
  | with_reducible apply ev_lst
  | with_reducible apply ev_bi
  | with_reducible apply ev_call
  | with_reducible apply ev_callp
  | with_reducible apply ev_isi
  | with_reducible apply w_set
  | with_reducible apply w_ex
  | with_reducible apply w_ret
  | with_reducible apply w_nil
  | with_reducible exact bi_addI | with_reducible exact bi_subI
  | with_reducible exact cm_eqI | with_reducible exact cm_neI | with_reducible exact cm_eqS | with_reducible exact cm_neS | with_reducible exact cm_eqB | with_reducible exact cm_neB
  | with_reducible exact cm_ltI | with_reducible exact cm_leI | with_reducible exact cm_gtI | with_reducible exact cm_geI
  | with_reducible exact in_strL | with_reducible exact in_strT)
local macro_rules | `(tactic| array_mem_dec) => `(tactic| repeat array_get_dec)

section
variable {X : Ctx} {e e' : Env} {M M1 M2 M3 : Mem} {a b c : C} {x y d : D} {o1 o2 o3 : Bool} {es cs : List C} {ds : List D} {Q : Fl → Mem → Prop}
theorem w_append {i : Nat} {l : List D} {ss : List S} (ho : ownAt e i = some (.lst l)) (h : den X a e M = .ok (d, o1) M1) (hl : l.length < szLine) (h2 : Wp (denSs X ss (e.set i (some (.lst (l ++ [d]), true))) M1) Q) : Wp (denSs X (.append i a :: ss) e M) Q := by
  refine w_cons (e' := e.set i (some (.lst (l ++ [d]), true))) (M1 := M1) ?_ h2
  show (match ownAt e i with
    | some (.lst l) => MM.bind (den X a e) fun x => if l.length < szLine then MM.pure (Fl.nx (e.set i (some (.lst (l ++ [x.1]), true)))) else bad
    | _ => bad) M = _
  rw [ho]
  exact bind_of h (by dsimp only; rw [if_pos hl]; rfl)
theorem w_share {i : Nat} {ss : List S} {d : D} (h : e[i]? = some (some (d, true))) (h2 : Wp (denSs X ss (e.set i (some (d, false))) M) Q) : Wp (denSs X (.share i :: ss) e M) Q := by
  refine w_cons (e' := e.set i (some (d, false))) (M1 := M) ?_ h2
  show R.ok (Fl.nx (match e[i]? with
    | some (some (d, true)) => e.set i (some (d, false))
    | _ => e)) M = _
  rw [h]
theorem w_share0 {i : Nat} {ss : List S} {d : D} (h : e[i]? = some (some (d, false))) (h2 : Wp (denSs X ss e M) Q) : Wp (denSs X (.share i :: ss) e M) Q := by
  refine w_cons (e' := e) (M1 := M) ?_ h2
  show R.ok (Fl.nx (match e[i]? with
    | some (some (d, true)) => e.set i (some (d, false))
    | _ => e)) M = _
  rw [h]
theorem w_aug {i : Nat} {o : BOp} {p q r : Int} {f : Bool} {ss : List S} (he : e[i]? = some (some (.int p, f))) (h : den X a e M = .ok (.int q, o1) M1) (hr : augI o p q = some r) (h2 : Wp (denSs X ss (e.set i (some (.int r, false))) M1) Q) : Wp (denSs X (.aug i o a :: ss) e M) Q := by
  refine w_cons (e' := e.set i (some (.int r, false))) (M1 := M1) ?_ h2
  show (match e[i]? with
    | some (some (.int a', _)) => MM.bind (den X a e) fun x => match x.1 with
      | .int b => (match augI o a' b with
        | some z => MM.pure (Fl.nx (e.set i (some (.int z, false))))
        | none => bad)
      | _ => bad
    | _ => bad) M = _
  rw [he]
  exact bind_of h (by dsimp only; rw [hr]; rfl)
theorem w_asg {t : Tg} {ss : List S} (h : den X a e M = .ok (d, o1) M1) (h1 : asgG X t d e M1 = .ok e' M2) (h2 : Wp (denSs X ss e' M2) Q) : Wp (denSs X (.asg t a :: ss) e M) Q :=
  w_cons (bind_of h (bind_of h1 rfl)) h2
theorem w_retO {i : Nat} {ss : List S} {o : Bool} (h : e[i]? = some (some (d, o))) (h2 : Q (.rt d o) M) : Wp (denSs X (.retO i :: ss) e M) Q := by
  refine ⟨.rt d o, M, st_stop ?_, h2⟩
  show (match e[i]? with
    | some (some (d, own)) => MM.pure (Fl.rt d own)
    | _ => bad) M = _
  rw [h]; rfl
def isM : D → Bool
  | .mtb _ => true
  | _ => false
theorem ev_ix (ha : den X a e M = .ok (x, o1) M1) (hb : den X b e M1 = .ok (y, o2) M2) (hx : isM x = false) (h : idxO x y = some d) : den X (.idx a b) e M = .ok (d, false) M2 :=
  bind_of ha (bind_of hb (by
    cases x <;> first | (cases hx; done) | skip
    all_goals
      dsimp only at h ⊢
      rw [h]; rfl))
end
/-! rows -/
def rowsStep (l : List (List Nat)) : List (List Nat) := l.flatMap fun r => [r ++ [48], r ++ [49]]
def rowsF : Nat → List (List Nat)
  | 0 => [[]]
  | n + 1 => rowsStep (rowsF n)
theorem flatMap_two : ∀ l : List (List Nat), (rowsStep l).length = 2 * l.length
  | [] => rfl
  | a :: l => by
    have := flatMap_two l
    unfold rowsStep at this ⊢
    rw [List.flatMap_cons, List.length_append, this]
    simp; omega
theorem rowsF_len : ∀ n, (rowsF n).length = 2 ^ n
  | 0 => rfl
  | n + 1 => by rw [rowsF, flatMap_two, rowsF_len n, Nat.pow_succ]; omega
theorem rowsF_row : ∀ (n : Nat) (r : List Nat), r ∈ rowsF n → r.length = n ∧ ∀ c ∈ r, c = 48 ∨ c = 49
  | 0, r, h => by simp [rowsF] at h; subst h; simp
  | n + 1, r, h => by
    obtain ⟨q, hq, hr⟩ := List.mem_flatMap.mp h
    obtain ⟨h1, h2⟩ := rowsF_row n q hq
    have hr : r = q ++ [48] ∨ r = q ++ [49] := by simpa using hr
    rcases hr with rfl | rfl
    · refine ⟨by simp [h1], fun c hc => ?_⟩
      rcases List.mem_append.mp hc with hc | hc
      · exact h2 c hc
      · left; simpa using hc
    · refine ⟨by simp [h1], fun c hc => ?_⟩
      rcases List.mem_append.mp hc with hc | hc
      · exact h2 c hc
      · right; simpa using hc
def fRows : Fn := ⟨5, 1, [(.set 1 false (.lst [(.str [])])), (.for_ (.name 2) .range1 [(.var 0)] [(.set 3 false (.lst [])), (.for_ (.name 4) .seq [(.var 1)] [(.set 3 false (.bin .add (.var 3) (.lst [(.bin .add (.var 4) (.str [48])), (.bin .add (.var 4) (.str [49]))])))]), (.set 1 false (.var 3))]), (.ret (.var 1))], 0⟩
theorem rangeL_get {n : Nat} {j : Nat} {d : D} (h : (rangeL 0 n)[j]? = some d) : d = .int j ∧ j < n := by
  unfold rangeL at h
  rw [List.getElem?_map] at h
  obtain ⟨k, h1, rfl⟩ := Option.map_eq_some_iff.mp h
  obtain ⟨h2, h3⟩ := List.getElem?_eq_some_iff.mp h1
  simp at h3 h2
  subst h3
  exact ⟨by simp, by omega⟩
theorem rangeL_len (n : Nat) : (rangeL 0 n).length = n := by simp [rangeL]
theorem it_range {n : Nat} (h : n < 1000000) : itO .range1 [.int n] = some (rangeL 0 n) := by
  show (if smallI n then some (rangeL 0 n) else none) = _
  rw [if_pos (by simp [smallI]; omega)]
theorem rows_ok (X : Ctx) (M : Mem) (n : Nat) (hn : n ≤ 10) : fnRun X fRows [.int n] M = .ok (.lst ((rowsF n).map .str), false) M := by
  refine Wp.eq (w_fn rfl ?_)
  refine w_set (ev_lst (by array_mem_dec)) ?_
  refine w_for (items := rangeL 0 n) (fun j e M' => M' = M ∧ ∃ a b c, e = [some (.int n, false), some (.lst ((rowsF j).map .str), false), a, b, c]) (by array_mem_dec) (it_range (by omega)) ⟨rfl, _, _, _, rfl⟩ ?_ ?_
  · rintro j d e M' hj ⟨rfl, a, b, c, rfl⟩
    obtain ⟨rfl, hjn⟩ := rangeL_get hj
    have hz : (rowsF j).length ≤ 1024 := by rw [rowsF_len]; exact Nat.le_trans (Nat.pow_le_pow_right (by omega) (show j ≤ 10 by omega)) (by decide)
    refine ⟨_, rfl, ?_⟩
    refine w_set (ev_lst evl_nil) ?_
    refine w_for (items := (rowsF j).map .str) (fun i e M'' => M'' = M' ∧ ∃ c, e = [some (.int n, false), some (.lst ((rowsF j).map .str), false), some (.int j, false), some (.lst ((rowsStep ((rowsF j).take i)).map .str), false), c]) (by array_mem_dec) rfl ⟨rfl, _, rfl⟩ ?_ ?_
    · rintro i d e M'' hi ⟨rfl, c, rfl⟩
      rw [List.getElem?_map] at hi
      obtain ⟨r, hr, rfl⟩ := Option.map_eq_some_iff.mp hi
      have hil : i < (rowsF j).length := (List.getElem?_eq_some_iff.mp hr).1
      refine ⟨_, rfl, ?_⟩
      have hrl := (rowsF_row j r (List.mem_of_getElem? hr)).1
      have ht : (rowsStep ((rowsF j).take (i + 1))) = rowsStep ((rowsF j).take i) ++ [r ++ [48], r ++ [49]] := by
        rw [List.take_add_one, hr]
        unfold rowsStep
        rw [List.flatMap_append]; simp
      refine w_set (d := .lst ((rowsStep ((rowsF j).take (i + 1))).map .str)) (ev_bin (by array_mem_dec) (ev_lst (evl_cons (ev_bin (by array_mem_dec) (by array_mem_dec) (bi_addS (by simp [szLine]; omega))) (evl_cons (ev_bin (by array_mem_dec) (by array_mem_dec) (bi_addS (by simp [szLine]; omega))) evl_nil))) ?_) (w_nil ⟨_, rfl, rfl, _, rfl⟩)
      rw [ht, List.map_append]
      refine bi_addL ?_
      rw [List.length_map, flatMap_two]
      simp [szLine]; omega
    · rintro e M'' ⟨rfl, c, rfl⟩
      have ht : (rowsF j).take ((rowsF j).map D.str).length = rowsF j := by simp
      rw [ht]
      exact w_set (ev_var rfl) (w_nil ⟨_, rfl, rfl, _, _, _, rfl⟩)
  · rintro e M' ⟨rfl, a, b, c, rfl⟩
    rw [rangeL_len]
    exact w_ret (ev_var rfl) ret_ok
end MP
end

section
set_option linter.all false
set_option Elab.async false
set_option maxRecDepth 100000
set_option maxHeartbeats 4000000
namespace MP
/-- one step of an evaluation: hijacked words -/
local macro_rules | `(tactic| array_get_dec) => `(tactic| first
  | with_reducible exact ev_int
  | with_reducible exact ev_str
  | with_reducible exact ev_bl
  | with_reducible exact ev_non
  | (with_reducible apply ev_var)<;> rfl
  | (with_reducible apply ev_bvar)<;> rfl
  | (with_reducible apply ev_glob)<;> rfl
  | with_reducible exact evl_nil
  | with_reducible apply evl_cons
  | with_reducible apply ev_bin
  | with_reducible apply ev_cmp
  | with_reducible apply ev_not
  | with_reducible apply ev_neg
  | with_reducible apply ev_tup
  | with_reducible apply ev_lst
  | with_reducible apply ev_bi
  | with_reducible apply ev_call
  | with_reducible apply ev_callp
  | with_reducible apply ev_isi
  | with_reducible apply w_set
  | with_reducible apply w_ex
  | with_reducible apply w_ret
  | with_reducible apply w_nil
  | with_reducible exact bi_addI | with_reducible exact bi_subI
  | with_reducible exact cm_eqI | with_reducible exact cm_neI | with_reducible exact cm_eqS | with_reducible exact cm_neS | with_reducible exact cm_eqB | with_reducible exact cm_neB
  | with_reducible exact cm_ltI | with_reducible exact cm_leI | with_reducible exact cm_gtI | with_reducible exact cm_geI
  | with_reducible exact in_strL | with_reducible exact in_strT)
local macro_rules | `(tactic| array_mem_dec) => `(tactic| repeat array_get_dec)

/-! sources of draws -/
theorem mul_ok {i j : Int} {a b : Nat} (h : i.natAbs.log2 ≤ a) (h2 : j.natAbs.log2 ≤ b) (h3 : a + b < 4000000) : mulOk i j = true := by
  simp [mulOk]; omega
theorem bi_powI {i j : Int} (h : 0 ≤ j) (h2 : j ≤ 1000) (h3 : i.natAbs < 1000) : binO .pow (.int i) (.int j) = some (.int (i ^ j.toNat)) := if_pos (by simp [h, h2, h3])
theorem cut_scr (ns : List Int) (n : Nat) : slcO (.scr ns) .non (.int n) = some (.lst ((ns.take n).map .int)) := by
  show (cut ns .non (.int (n : Int))).map (fun ns => D.lst (ns.map .int)) = _
  have : cut ns .non (.int (n : Int)) = some (ns.take n) := by
    unfold cut
    have e1 : sIx ns.length 0 .non = some 0 := rfl
    have e2 : sIx ns.length ns.length (.int (n : Int)) = some (min n ns.length) := by
      show some (if (n : Int) < 0 then ((n : Int) + (ns.length : Int)).toNat else min (n : Int).toNat ns.length) = _
      rw [if_neg (by omega)]
      simp
    rw [e1, e2]
    simp [List.take_eq_take_iff]
  rw [this]; rfl
theorem idx_scr {ns : List Int} {t : Nat} (h : t < ns.length) : idxO (.scr ns) (.int t) = some (.int (ns[t]?.getD 0)) := by
  show ((ixN ns.length (t : Int)).bind fun j => (ns[j]?).map D.int) = _
  have : ixN ns.length (t : Int) = some t := by
    unfold ixN
    rw [if_pos (by omega), if_pos (by simpa using h)]; simp
  rw [this]
  simp [List.getElem?_eq_getElem h]
theorem idx_lst {l : List D} {k : Nat} {d : D} (h : l[k]? = some d) : idxO (.lst l) (.int k) = some d := by
  have hl := (List.getElem?_eq_some_iff.mp h).1
  show ((ixN l.length (k : Int)).bind fun j => l[j]?) = _
  have : ixN l.length (k : Int) = some k := by
    unfold ixN
    rw [if_pos (by omega), if_pos (by simpa using hl)]; simp
  rw [this]; exact h
theorem own_ok (ns : List Int) (hn : ∀ z ∈ ns, z.natAbs.log2 ≤ 1048576) (t : Nat) : ∃ own : Int, own = (if decide ((t : Int) < ns.length) then (ns[t]?.getD 0) else 0) ∧ own.natAbs.log2 ≤ 1048576 := by
  refine ⟨_, rfl, ?_⟩
  split
  · cases e : ns[t]? with
    | none => simp
    | some z => exact hn z (List.mem_of_getElem? e)
  · simp
def fSource : Fn := ⟨5, 2, [(.set 2 false (.ite (.cmp .lt (.var 1) (.bi .len [(.var 0)])) (.idx (.var 0) (.var 1)) (.int 0))), (.set 3 false (.bin .add (.int 40009) (.bin .mul (.int 5471) (.var 1)))), (.for_ (.name 4) .seq [(.slc (.var 0) .non (.int 5))] [(.set 3 false (.bin .mod (.bi .int [(.bin .add (.bin .add (.bin .mul (.var 3) (.int 28687)) (.bin .mul (.var 4) (.int 11))) (.int 29))]) (.int 2147483563)))]), (.ret (.mkmut [(.ite (.or (.cmp .lt (.var 2) (.int 0)) (.cmp .ge (.var 2) (.bin .pow (.int 10) (.int 18)))) (.bi .abs [(.var 2)]) (.int 0)), (.bin .mod (.bi .int [(.bin .add (.bin .add (.bin .mul (.var 3) (.int 71)) (.bin .mul (.var 2) (.var 2))) (.bin .mul (.int 23) (.var 1)))]) (.int 2147483563)), (.int 0)]))], 0⟩
theorem source_ok (X : Ctx) {ns : List Int} {t : Nat} (hn : ∀ z ∈ ns, z.natAbs.log2 ≤ 1048576) (ht : t < 100) (M : Mem) :
    ∃ M', fnRun X fSource [.scr ns, .int t] M = .ok (.mtb M.length, false) M' ∧ Jar M' M.length 0 := by
  suffices h : Wp (fnRun X fSource [.scr ns, .int t] M) fun b M' => b = (.mtb M.length, false) ∧ Jar M' M.length 0 by
    obtain ⟨_, M', h, rfl, h2⟩ := h
    exact ⟨M', h, h2⟩
  obtain ⟨own, ho, hol⟩ := own_ok ns hn t
  refine w_fn rfl ?_
  refine w_set (d := .int own) (o1 := false) (M1 := M) ?_ ?_
  · rw [ho]
    refine ev_iteI (ev_cmp (ev_var rfl) (ev_bi (evl_cons (ev_var rfl) evl_nil) rfl) cm_ltI) (fun h => ?_) (fun h => ev_int)
    exact ev_ix (ev_var rfl) (ev_var rfl) rfl (idx_scr (by have := of_decide_eq_true h; omega))
  refine w_set (d := .int (40009 + 5471 * (t : Int))) (ev_bin ev_int (ev_bin ev_int (ev_var rfl) (bi_mulI (mul_small (by omega) (by omega)))) rfl) ?_
  have hm0 : (40009 + 5471 * (t : Int)).natAbs < 2 ^ 40 := by omega
  generalize 40009 + 5471 * (t : Int) = m0 at hm0
  refine w_for' (items := (ns.take 5).map .int) (fun e M' => M' = M ∧ ∃ (m : Int) (a : Option (D × Bool)), m.natAbs < 2 ^ 40 ∧ e = [some (.scr ns, false), some (.int t, false), some (.int own, false), some (.int m, false), a]) (evl_cons (ev_slc (ev_var rfl) ev_non rfl ev_int rfl (cut_scr ns 5) rfl) evl_nil) rfl ⟨rfl, m0, _, hm0, rfl⟩ ?_ ?_
  · rintro d e M' hd ⟨rfl, m, a, hm, rfl⟩
    obtain ⟨z, hz, rfl⟩ := List.mem_map.mp hd
    have hzl := hn z (List.mem_of_mem_take hz)
    refine ⟨_, rfl, ?_⟩
    refine w_set (d := .int ((m * 28687 + z * 11 + 29) % 2147483563)) (ev_bin (ev_bi (evl_cons (ev_bin (ev_bin (ev_bin (ev_var rfl) ev_int (bi_mulI (mul_small (by omega) (by omega)))) (ev_bin (ev_var rfl) ev_int (bi_mulI (mul_ok (b := 62) hzl (log2_small (by omega)) (by omega)))) rfl) ev_int rfl) evl_nil) rfl) ev_int (bi_modI (by omega))) (w_nil ⟨_, rfl, rfl, _, some (.int z, false), ?_, rfl⟩)
    have := Int.emod_nonneg (m * 28687 + z * 11 + 29) (b := 2147483563) (by omega)
    have := Int.emod_lt_of_pos (m * 28687 + z * 11 + 29) (b := 2147483563) (by omega)
    omega
  · rintro e M' ⟨rfl, m, a, hm, rfl⟩
    obtain ⟨dg, hdg⟩ : ∃ dg : Int, dg = (if (decide (own < 0) || decide ((10 : Int) ^ (18 : Int).toNat ≤ own)) then (if own < 0 then -own else own) else 0) := ⟨_, rfl⟩
    refine w_ret (ev_mkmut (evl_cons (x := .int dg) (o1 := false) (M1 := M') (by rw [hdg]; exact ev_iteI (ev_or (ev_cmp (ev_var rfl) ev_int cm_ltI) fun _ => ev_cmp (ev_var rfl) (ev_bin ev_int ev_int (bi_powI (by omega) (by omega) (by omega))) cm_geI) (fun _ => ev_bi (evl_cons (ev_var rfl) evl_nil) rfl) (fun _ => ev_int)) (evl_cons (ev_bin (ev_bi (evl_cons (ev_bin (ev_bin (ev_bin (ev_var rfl) ev_int (bi_mulI (mul_small (by omega) (by omega)))) (ev_bin (ev_var rfl) (ev_var rfl) (bi_mulI (mul_ok hol hol (by omega)))) rfl) (ev_bin ev_int (ev_var rfl) (bi_mulI (mul_small (by omega) (by omega)))) rfl) evl_nil) rfl) ev_int (bi_modI (by omega))) (evl_cons ev_int evl_nil)))) ?_
    refine ⟨rfl, dg, (m * 71 + own * own + 23 * (t : Int)) % 2147483563, 0, ?_, ?_, ?_, ?_, ?_⟩
    · exact List.getElem?_concat_length
    · exact Int.emod_nonneg _ (by omega)
    · have := Int.emod_lt_of_pos (m * 71 + own * own + 23 * (t : Int)) (b := 2147483563) (by omega)
      omega
    · omega
    · omega
def fTake : Fn := ⟨4, 2, [(.ite (.cmp .gt (.idx (.var 0) (.int 0)) (.int 0)) [(.asg (.tup [(.msub (.var 0) (.int 0)), (.name 2)]) (.bi .divmod [(.idx (.var 0) (.int 0)), (.var 1)])), (.ret (.var 2))] []), (.asg (.msub (.var 0) (.int 2)) (.bin .add (.idx (.var 0) (.int 2)) (.int 1))), (.set 3 false (.bin .mod (.bi .int [(.bin .add (.bin .add (.bin .mul (.idx (.var 0) (.int 1)) (.bin .add (.int 43013) (.bin .mul (.int 2) (.idx (.var 0) (.int 2))))) (.bin .mul (.int 3307) (.idx (.var 0) (.int 2)))) (.int 13))]) (.int 2147483563))), (.asg (.msub (.var 0) (.int 1)) (.bin .mod (.bi .int [(.bin .add (.bin .add (.bin .mul (.var 3) (.int 36007)) (.bin .mul (.int 7) (.idx (.var 0) (.int 2)))) (.int 5))]) (.int 2147483549))), (.ret (.bin .mod (.bi .int [(.bin .fdiv (.idx (.var 0) (.int 1)) (.int 1024))]) (.var 1)))], 0⟩
theorem w_msub {X : Ctx} {e : Env} {M M1 M2 M3 : Mem} {n : Nat} {l l' : List D} {a k v : C} {d y : D} {o1 o2 o3 : Bool} {ss : List S} {Q : Fl → Mem → Prop} (hv : den X v e M = .ok (d, o1) M1) (ha : den X a e M1 = .ok (.mtb n, o2) M2) (hk : den X k e M2 = .ok (y, o3) M3) (hM : M3[n]? = some (.lst l)) (hp : putO (.lst l) y d = some (.lst l'))
    (h2 : Wp (denSs X ss e (M3.set n (.lst l'))) Q) : Wp (denSs X (.asg (.msub a k) v :: ss) e M) Q := w_cons (st_msub hv ha hk hM hp) h2
theorem asg_msub {X : Ctx} {e : Env} {M M2 M3 : Mem} {n : Nat} {l l' : List D} {a k : C} {d y : D} {o2 o3 : Bool} (ha : den X a e M = .ok (.mtb n, o2) M2) (hk : den X k e M2 = .ok (y, o3) M3) (hM : M3[n]? = some (.lst l)) (hp : putO (.lst l) y d = some (.lst l')) :
    asgG X (.msub a k) d e M = .ok e (M3.set n (.lst l')) :=
  bind_of ha (bind_of hk (by
    show mput n y d e M3 = .ok e (M3.set n (.lst l'))
    unfold mput
    rw [hM]
    dsimp only
    rw [hp]))
theorem asg_tup {X : Ctx} {e e' : Env} {M M' : Mem} {l : List Tg} {ds : List D} (hl : l.length = ds.length) (h : asgGs X l ds e M = .ok e' M') : asgG X (.tup l) (.tup ds) e M = .ok e' M' := by
  show (if l.length = ds.length then asgGs X l ds e else bad) M = _
  rw [if_pos hl]; exact h
theorem take_ok (X : Ctx) {n : Nat} {many : Int} {M : Mem} {q : Int} (h : Jar M n q) (h1 : 0 < many) (h2 : many < 1000000) (hq : q < 1000000000) :
    ∃ r M', 0 ≤ r ∧ r < many ∧ fnRun X fTake [.mtb n, .int many] M = .ok (.int r, false) M' ∧ M'.length = M.length ∧ Jar M' n (q + 1) := by
  suffices hh : Wp (fnRun X fTake [.mtb n, .int many] M) fun b M' => ∃ r : Int, b = (.int r, false) ∧ 0 ≤ r ∧ r < many ∧ M'.length = M.length ∧ Jar M' n (q + 1) by
    obtain ⟨_, M', h, r, rfl, h3, h4, h5, h6⟩ := hh
    exact ⟨r, M', h3, h4, h, h5, h6⟩
  obtain ⟨a, b, c, hM, b0, b1, c0, c1⟩ := h
  have hn : n < M.length := (List.getElem?_eq_some_iff.mp hM).1
  refine w_fn rfl ?_
  refine w_ite (ev_cmp (ev_midx (ev_var rfl) ev_int hM rfl) ev_int cm_gtI) (fun ha => ?_) (fun ha => ?_)
  · have ha := of_decide_eq_true ha
    refine w_asg (d := .tup [.int (a / many), .int (a % many)]) (ev_bi (evl_cons (ev_midx (ev_var rfl) ev_int hM rfl) (evl_cons (ev_var rfl) evl_nil)) ?_) (e' := [some (.mtb n, false), some (.int many, false), some (.int (a % many), false), none]) (M2 := M.set n (.lst [.int (a / many), .int b, .int c])) ?_ ?_
    · show (if (0 < many && many < 1073741824) = true then some (D.tup [.int (a / many), .int (a % many)]) else none) = _
      rw [if_pos (by simp; omega)]
    · exact asg_tup rfl (bind_of (asg_msub (ev_var rfl) ev_int hM rfl) rfl)
    · exact w_ret (ev_var rfl) ⟨a % many, rfl, Int.emod_nonneg _ (by omega), Int.emod_lt_of_pos _ h1, by simp, a / many, b, c, by rw [List.getElem?_set_self (by simpa using hn)], b0, b1, by omega, by omega⟩
  · refine w_msub (d := .int (c + 1)) (y := .int 2) (ev_bin (ev_midx (ev_var rfl) ev_int hM rfl) ev_int rfl) (ev_var rfl) ev_int hM rfl ?_
    have hM1 : (M.set n (.lst [.int a, .int b, .int (c + 1)]))[n]? = some (.lst [.int a, .int b, .int (c + 1)]) := List.getElem?_set_self hn
    have mo : (b * (43013 + 2 * (c + 1))).natAbs < 2 ^ 70 ∨ True := .inr trivial
    have lb : b.natAbs.log2 ≤ 31 := log2_small (by omega)
    have lc : (43013 + 2 * (c + 1)).natAbs.log2 ≤ 40 := log2_small (by omega)
    obtain ⟨b', hb'⟩ : ∃ b', b' = (b * (43013 + 2 * (c + 1)) + 3307 * (c + 1) + 13) % 2147483563 := ⟨_, rfl⟩
    have b'0 : 0 ≤ b' := by rw [hb']; exact Int.emod_nonneg _ (by omega)
    have b'1 : b' < 2147483563 := by rw [hb']; exact Int.emod_lt_of_pos _ (by omega)
    refine w_set (d := .int b') (o1 := false) (M1 := M.set n (.lst [.int a, .int b, .int (c + 1)])) ?_ ?_
    · rw [hb']
      exact ev_bin (ev_bi (evl_cons (ev_bin (ev_bin (ev_bin (ev_midx (ev_var rfl) ev_int hM1 rfl) (ev_bin ev_int (ev_bin ev_int (ev_midx (ev_var rfl) ev_int hM1 rfl) (bi_mulI (mul_small (by omega) (by omega)))) rfl) (bi_mulI (mul_ok lb lc (by omega)))) (ev_bin ev_int (ev_midx (ev_var rfl) ev_int hM1 rfl) (bi_mulI (mul_small (by omega) (by omega)))) rfl) ev_int rfl) evl_nil) rfl) ev_int (bi_modI (by omega))
    obtain ⟨g, hg⟩ : ∃ g, g = (b' * 36007 + 7 * (c + 1) + 5) % 2147483549 := ⟨_, rfl⟩
    have g0 : 0 ≤ g := by rw [hg]; exact Int.emod_nonneg _ (by omega)
    have g1 : g < 2147483549 := by rw [hg]; exact Int.emod_lt_of_pos _ (by omega)
    refine w_msub (d := .int g) (y := .int 1) (o1 := false) (M1 := M.set n (.lst [.int a, .int b, .int (c + 1)])) ?_ (ev_var rfl) ev_int hM1 rfl ?_
    · rw [hg]
      exact ev_bin (ev_bi (evl_cons (ev_bin (ev_bin (ev_bin (ev_var rfl) ev_int (bi_mulI (mul_small (by omega) (by omega)))) (ev_bin ev_int (ev_midx (ev_var rfl) ev_int hM1 rfl) (bi_mulI (mul_small (by omega) (by omega)))) rfl) ev_int rfl) evl_nil) rfl) ev_int (bi_modI (by omega))
    have hM2 : ((M.set n (.lst [.int a, .int b, .int (c + 1)])).set n (.lst [.int a, .int g, .int (c + 1)]))[n]? = some (.lst [.int a, .int g, .int (c + 1)]) := List.getElem?_set_self (by simpa using hn)
    refine w_ret (d := .int (g / 1024 % many)) (ev_bin (ev_bi (evl_cons (ev_bin (ev_midx (ev_var rfl) ev_int hM2 rfl) ev_int (bi_divI (by omega) (by omega))) evl_nil) rfl) (ev_var rfl) (bi_modI h1)) ⟨g / 1024 % many, rfl, Int.emod_nonneg _ (by omega), Int.emod_lt_of_pos _ h1, by simp, a, g, c + 1, hM2, g0, by omega, by omega, by omega⟩
/-- a comprehension whose elements change the store -/
theorem loopL_eff {step : D → List D → MM (List D)} (I : Mem → Prop) (P : D → Prop) : ∀ (items : List D) (acc : List D) (M : Mem), I M → (∀ d ∈ items, ∀ (acc : List D) M, acc.length < szLine → I M → ∃ v M', step d acc M = .ok (acc ++ [v]) M' ∧ P v ∧ I M') → acc.length + items.length ≤ szLine →
    ∃ vs M', loopL step items acc M = .ok (acc ++ vs) M' ∧ vs.length = items.length ∧ (∀ v ∈ vs, P v) ∧ I M'
  | [], acc, M, h, _, _ => ⟨[], M, by rw [List.append_nil]; rfl, rfl, by simp, h⟩
  | d :: r, acc, M, h, hs, hl => by
    obtain ⟨v, M1, h1, h2, h3⟩ := hs d (by simp) acc M (by simp at hl; omega) h
    obtain ⟨vs, M2, h4, h5, h6, h7⟩ := loopL_eff I P r (acc ++ [v]) M1 h3 (fun d hd => hs d (by simp [hd])) (by simp at hl ⊢; omega)
    refine ⟨v :: vs, M2, ?_, by simp [h5], fun x hx => ?_, h7⟩
    · have : loopL step (d :: r) acc M = MM.bind (step d acc) (fun a' => loopL step r a') M := rfl
      rw [this]
      refine (bind_of h1 h4).trans ?_
      simp
    · rcases List.mem_cons.mp hx with rfl | hx
      · exact h2
      · exact h6 x hx
theorem ev_lcE {X : Ctx} {e : Env} {M M1 : Mem} {a : C} {ds items : List D} {t : Tn} {k : ItK} {as : List C} {own : List Nat} (I : Mem → Prop) (P : D → Prop) (he : denL X as e M = .ok ds M1) (hi : itO k ds = some items) (hl : items.length ≤ szLine) (hI : I M1)
    (hb : ∀ d ∈ items, ∃ e1, bindT false t d (wipeE e own) = some e1 ∧ ∀ M, I M → ∃ v o M', den X a e1 M = .ok (v, o) M' ∧ P v ∧ I M') :
    ∃ vs M', den X (.lc a t k as [] own) e M = .ok (.lst vs, true) M' ∧ vs.length = items.length ∧ (∀ v ∈ vs, P v) ∧ I M' := by
  obtain ⟨vs, M', h1, h2, h3, h4⟩ := loopL_eff (step := fun d acc => match bindT false t d (wipeE e own) with
        | none => bad
        | some e' => MM.bind (denT X [] e') fun b => if b then MM.bind (den X a e') fun y => if acc.length < szLine then MM.pure (acc ++ [y.1]) else bad else MM.pure acc) I P items [] M1 hI (fun d hd acc M hacc hM => by
    obtain ⟨e1, q1, q2⟩ := hb d hd
    obtain ⟨v, o, M', q3, q4, q5⟩ := q2 M hM
    refine ⟨v, M', ?_, q4, q5⟩
    rw [q1]
    dsimp only
    refine bind_of (v := true) (M1 := M) rfl ?_
    rw [if_pos rfl]
    refine bind_of q3 ?_
    rw [if_pos hacc]; rfl) (by simpa using hl)
  refine ⟨vs, M', ?_, h2, h3, h4⟩
  refine bind_of he ?_
  rw [hi]
  refine bind_of (noExc_of (a := vs) (M' := M') ?_) rfl
  rw [List.nil_append] at h1
  exact h1
end MP
end

section
set_option linter.all false
set_option Elab.async false
set_option maxRecDepth 100000
set_option maxHeartbeats 4000000
namespace MP

/-! the frame of laws over jars -/
def fJar : Fn := ⟨6, 2, [(.set 2 false (.bin .add (.bin .mul (.bin .mul (.int 7369) (.bin .add (.var 1) (.int 5))) (.bin .add (.var 1) (.int 2))) (.bin .mul (.int 29) (.bi .len [(.var 0)])))), (.for_ (.name 3) .seq [(.slc (.var 0) .non (.int 4))] [(.set 2 false (.bin .mod (.bi .int [(.bin .add (.bin .mul (.var 2) (.int 733)) (.var 3))]) (.int 1000000009)))]), (.set 4 false (.ite (.cmp .lt (.var 1) (.bi .len [(.var 0)])) (.idx (.var 0) (.var 1)) (.int 0))), (.set 5 false (.ite (.or (.cmp .lt (.var 4) (.int 0)) (.cmp .ge (.var 4) (.bin .pow (.int 10) (.int 18)))) (.bi .abs [(.var 4)]) (.int 0))), (.ret (.mkmut [(.var 5), (.bin .mod (.bi .int [(.bin .add (.bin .add (.bin .mul (.var 2) (.int 8117)) (.bin .mul (.var 4) (.int 64013))) (.bin .mul (.int 105019) (.bin .add (.var 1) (.int 1))))]) (.int 2147483563)), (.int 0)]))], 0⟩
theorem jar_ok (X : Ctx) {ns : List Int} {t : Nat} (hn : ∀ z ∈ ns, z.natAbs.log2 ≤ 1048576) (hl : ns.length ≤ 63) (ht : t < 100) (M : Mem) :
    ∃ M', fnRun X fJar [.scr ns, .int t] M = .ok (.mtb M.length, false) M' ∧ M'.length = M.length + 1 ∧ Jar M' M.length 0 := by
  suffices h : Wp (fnRun X fJar [.scr ns, .int t] M) fun b M' => b = (.mtb M.length, false) ∧ M'.length = M.length + 1 ∧ Jar M' M.length 0 by
    obtain ⟨_, M', h, rfl, h2⟩ := h
    exact ⟨M', h, h2⟩
  obtain ⟨own, ho, hol⟩ := own_ok ns hn t
  have ht1 : (t : Int) < 100 := by omega
  have hll : ((ns.length : Nat) : Int) ≤ 63 := by omega
  have hb0 : (7369 * ((t : Int) + 5)).natAbs < 2 ^ 30 := by omega
  have hb1 : (7369 * ((t : Int) + 5) * ((t : Int) + 2)).natAbs < 2 ^ 40 := by
    rw [Int.natAbs_mul]
    have h1 : (7369 * ((t : Int) + 5)).natAbs ≤ 1000000 := by omega
    have h2 : ((t : Int) + 2).natAbs ≤ 102 := by omega
    exact Nat.lt_of_le_of_lt (Nat.mul_le_mul h1 h2) (by decide)
  refine w_fn rfl ?_
  refine w_set (d := .int (7369 * ((t : Int) + 5) * ((t : Int) + 2) + 29 * (ns.length : Int))) (ev_bin (d := .int (7369 * ((t : Int) + 5) * ((t : Int) + 2) + 29 * (ns.length : Int))) (ev_bin (d := .int (7369 * ((t : Int) + 5) * ((t : Int) + 2))) (ev_bin (d := .int (7369 * ((t : Int) + 5))) ev_int (ev_bin (ev_var rfl) ev_int rfl) (bi_mulI (mul_small (by omega) (by omega)))) (ev_bin (ev_var rfl) ev_int rfl) (bi_mulI (mul_small (by omega) (by omega)))) (ev_bin (d := .int (29 * (ns.length : Int))) ev_int (ev_bi (evl_cons (ev_var rfl) evl_nil) rfl) (bi_mulI (mul_small (by omega) (by omega)))) rfl) ?_
  have hm0 : (7369 * ((t : Int) + 5) * ((t : Int) + 2) + 29 * (ns.length : Int)).natAbs < 2 ^ 42 := by omega
  generalize 7369 * ((t : Int) + 5) * ((t : Int) + 2) + 29 * (ns.length : Int) = m0 at hm0
  refine w_for' (items := (ns.take 4).map .int) (fun e M' => M' = M ∧ ∃ (m : Int) (a : Option (D × Bool)), m.natAbs < 2 ^ 42 ∧ e = [some (.scr ns, false), some (.int t, false), some (.int m, false), a, none, none]) (evl_cons (ev_slc (ev_var rfl) ev_non rfl ev_int rfl (cut_scr ns 4) rfl) evl_nil) rfl ⟨rfl, m0, _, hm0, rfl⟩ ?_ ?_
  · rintro d e M' hd ⟨rfl, m, a, hm, rfl⟩
    obtain ⟨z, hz, rfl⟩ := List.mem_map.mp hd
    refine ⟨_, rfl, ?_⟩
    refine w_set (d := .int ((m * 733 + z) % 1000000009)) (ev_bin (ev_bi (evl_cons (ev_bin (ev_bin (ev_var rfl) ev_int (bi_mulI (mul_small (by omega) (by omega)))) (ev_var rfl) rfl) evl_nil) rfl) ev_int (bi_modI (by omega))) (w_nil ⟨_, rfl, rfl, _, some (.int z, false), ?_, rfl⟩)
    have := Int.emod_nonneg (m * 733 + z) (b := 1000000009) (by omega)
    have := Int.emod_lt_of_pos (m * 733 + z) (b := 1000000009) (by omega)
    omega
  · rintro e M' ⟨rfl, m, a, hm, rfl⟩
    refine w_set (d := .int own) (o1 := false) (M1 := M') ?_ ?_
    · rw [ho]
      refine ev_iteI (ev_cmp (ev_var rfl) (ev_bi (evl_cons (ev_var rfl) evl_nil) rfl) cm_ltI) (fun h => ?_) (fun h => ev_int)
      exact ev_ix (ev_var rfl) (ev_var rfl) rfl (idx_scr (by have := of_decide_eq_true h; omega))
    obtain ⟨dg, hdg⟩ : ∃ dg : Int, dg = (if (decide (own < 0) || decide ((10 : Int) ^ (18 : Int).toNat ≤ own)) then (if own < 0 then -own else own) else 0) := ⟨_, rfl⟩
    refine w_set (d := .int dg) (o1 := false) (M1 := M') (by rw [hdg]; exact ev_iteI (ev_or (ev_cmp (ev_var rfl) ev_int cm_ltI) fun _ => ev_cmp (ev_var rfl) (ev_bin ev_int ev_int (bi_powI (by omega) (by omega) (by omega))) cm_geI) (fun _ => ev_bi (evl_cons (ev_var rfl) evl_nil) rfl) (fun _ => ev_int)) ?_
    refine w_ret (ev_mkmut (evl_cons (ev_var rfl) (evl_cons (ev_bin (d := .int ((m * 8117 + own * 64013 + 105019 * ((t : Int) + 1)) % 2147483563)) (ev_bi (evl_cons (ev_bin (ev_bin (ev_bin (ev_var rfl) ev_int (bi_mulI (mul_small (by omega) (by omega)))) (ev_bin (ev_var rfl) ev_int (bi_mulI (mul_ok (b := 62) hol (log2_small (by omega)) (by omega)))) rfl) (ev_bin ev_int (ev_bin (ev_var rfl) ev_int rfl) (bi_mulI (mul_small (by omega) (by omega)))) rfl) evl_nil) rfl) ev_int (bi_modI (by omega))) (evl_cons ev_int evl_nil)))) ?_
    refine ⟨rfl, by simp, dg, (m * 8117 + own * 64013 + 105019 * ((t : Int) + 1)) % 2147483563, 0, ?_, ?_, ?_, ?_, ?_⟩
    · exact List.getElem?_concat_length
    · exact Int.emod_nonneg _ (by omega)
    · have := Int.emod_lt_of_pos (m * 8117 + own * 64013 + 105019 * ((t : Int) + 1)) (b := 2147483563) (by omega)
      omega
    · omega
    · omega
/-- "for k in range(max(2, min(len(script), N))): if not right(jar(script, k)): return False", "return True" -/
def fLaw (N : Int) : Fn := ⟨2, 1, [(.for_ (.name 1) .range1 [(.bi .max [(.int 2), (.bi .min [(.bi .len [(.var 0)]), (.int N)])])] [(.ite (.not (.call 137 [(.call 128 [(.var 0), (.var 1)])])) [(.ret (.bl false))] [])]), (.ret (.bl true))], 0⟩
theorem law_ok (X : Ctx) {N : Int} (hN : N ≤ 99) {ns : List Int} (hl : ns.length ≤ 63)
    (hj : ∀ (t : Nat) (M : Mem), t < 100 → ∃ M', X.F 128 [.scr ns, .int t] M = .ok (.mtb M.length, false) M' ∧ M'.length = M.length + 1 ∧ Jar M' M.length 0)
    (hr : ∀ (n : Nat) (M : Mem), Jar M n 0 → ∃ o M', X.F 137 [.mtb n] M = .ok (.bl true, o) M') (M : Mem) : ∃ o M', fnRun X (fLaw N) [.scr ns] M = .ok (.bl true, o) M' := by
  suffices h : Wp (fnRun X (fLaw N) [.scr ns] M) fun b _ => b = (.bl true, false) by
    obtain ⟨_, M', h, rfl⟩ := h
    exact ⟨_, M', h⟩
  refine w_fn rfl ?_
  obtain ⟨m, hm, hm2⟩ : ∃ m : Nat, (m : Int) = (if (if N < (ns.length : Int) then N else (ns.length : Int)) > 2 then (if N < (ns.length : Int) then N else (ns.length : Int)) else 2) ∧ m < 100 := by
    generalize hq : (if N < (ns.length : Int) then N else (ns.length : Int)) = q
    have : q ≤ 99 := by rw [← hq]; split <;> omega
    split
    · exact ⟨q.toNat, by omega, by omega⟩
    · exact ⟨2, by omega, by omega⟩
  refine w_for' (items := rangeL 0 m) (fun e _ => ∃ a, e = [some (.scr ns, false), a]) (evl_cons (ev_bi (d := .int m) (evl_cons ev_int (evl_cons (ev_bi (evl_cons (ev_bi (evl_cons (ev_var rfl) evl_nil) rfl) (evl_cons ev_int evl_nil)) rfl) evl_nil)) (by rw [hm]; rfl)) evl_nil) (it_range (by omega)) ⟨_, rfl⟩ ?_ ?_
  · rintro d e M' hd ⟨a, rfl⟩
    obtain ⟨j, hj'⟩ := List.mem_iff_getElem?.mp hd
    obtain ⟨rfl, hjl⟩ := rangeL_get hj'
    refine ⟨_, rfl, ?_⟩
    obtain ⟨M1, h1, h2, h3⟩ := hj j M' (by omega)
    obtain ⟨o, M2, h4⟩ := hr _ M1 h3
    exact w_ite (ev_not (ev_call (evl_cons (ev_call (evl_cons (ev_var rfl) (evl_cons (ev_var rfl) evl_nil)) h1) evl_nil) h4)) (fun h => nomatch h) fun _ => w_nil ⟨_, rfl, _, rfl⟩
  · rintro e M' ⟨a, rfl⟩
    exact w_ret ev_bl rfl
end MP
end

section
set_option linter.all false
set_option Elab.async false
set_option maxRecDepth 100000
set_option maxHeartbeats 4000000
namespace MP
/-! what is closed is done on the empty store, at a depth told -/
theorem den_lift {P : Pg} {G : Nat → Option D} {rp : D → Option (List Nat)} {k0 k : Nat} {c : C} {e : Env} {r : D × Bool} (h : den ⟨run P k0, G, rp⟩ c e [] = .ok r []) (hk : k0 ≤ k) (M : Mem) : den ⟨run P k, G, rp⟩ c e M = .ok r M := by
  have h1 := (den_pu (F := run P k0) (G := G) (rp := rp) (fun f ds => run_pu P k0 f ds) c e).any r h M
  have h2 := den_le (F := run P k0) (F' := run P k) (G := G) (rp := rp) (fun f ds => run_mono P hk f ds) c e M (by rw [h1]; simp)
  rw [h2, h1]
theorem ss_lift {P : Pg} {G : Nat → Option D} {rp : D → Option (List Nat)} {k0 k : Nat} {c : List S} {e : Env} {r : Fl} (h : denSs ⟨run P k0, G, rp⟩ c e [] = .ok r []) (hk : k0 ≤ k) (M : Mem) : denSs ⟨run P k, G, rp⟩ c e M = .ok r M := by
  have h1 := (ss_pu (F := run P k0) (G := G) (rp := rp) (fun f ds => run_pu P k0 f ds) c e).any r h M
  have h2 := ss_le (F := run P k0) (F' := run P k) (G := G) (rp := rp) (fun f ds => run_mono P hk f ds) c e M (by rw [h1]; simp)
  rw [h2, h1]
theorem run_lift {P : Pg} {k0 k f : Nat} {ds : List D} {r : D × Bool} (h : run P k0 f ds [] = .ok r []) (hk : k0 ≤ k) (M : Mem) : run P k f ds M = .ok r M := run_at hk (run_any h M)
theorem ss_appN {X : Ctx} {p q : List S} {e e' : Env} {M M' : Mem} {r : R Fl} (h : denSs X p e M = .ok (.nx e') M') (h2 : denSs X q e' M' = r) : denSs X (p ++ q) e M = r := by
  induction p generalizing e M with
  | nil => cases h; exact h2
  | cons s p ih =>
    obtain ⟨f, M1, h1, h3⟩ := bind_ok (show MM.bind (denS X s e) (fun f => match f with
      | .nx e' => denSs X p e'
      | .rt d o => MM.pure (.rt d o)) M = _ from h)
    cases f with
    | nx e1 => exact st_cons h1 (ih h3)
    | rt d o => cases h3
theorem w_app {X : Ctx} {p q : List S} {e e' : Env} {M M' : Mem} {Q : Fl → Mem → Prop} (h : denSs X p e M = .ok (.nx e') M') (h2 : Wp (denSs X q e' M') Q) : Wp (denSs X (p ++ q) e M) Q := by
  obtain ⟨a, m, h3, q⟩ := h2
  exact ⟨a, m, ss_appN h h3, q⟩
/-- what holds of a Bool answer on the empty store -/
def isBA (b : Bool) : R (D × Bool) → Bool
  | .ok (.bl c, false) [] => c == b
  | _ => false
theorem isBA_eq {b : Bool} {r : R (D × Bool)} (h : isBA b r = true) : r = .ok (.bl b, false) [] := by
  unfold isBA at h
  split at h
  · rename_i c; rw [eq_of_beq h]
  · cases h
section
variable {X : Ctx} {e e' : Env} {M M1 M2 M3 : Mem} {a b c : C} {x y d : D} {o1 o2 o3 : Bool} {es cs : List C} {ds : List D} {Q : Fl → Mem → Prop}
/-- a field -/
theorem ev_fld {f : PySem.Str} {cn i : Nat} (ha : den X a e M = .ok (.ins cn ds, o1) M1) (hf : fieldIx cn f = some i) (hd : ds[i]? = some d) : den X (.attr f a) e M = .ok (d, false) M1 :=
  bind_of ha (by dsimp only; rw [hf]; dsimp only; rw [hd]; rfl)
/-- a property -/
theorem ev_prop {f : PySem.Str} {cn n : Nat} (ha : den X a e M = .ok (.ins cn ds, o1) M1) (hf : fieldIx cn f = none) (hn : methNo cn f = some n) (h : X.F n [.ins cn ds] M1 = .ok (d, o2) M2) : den X (.attr f a) e M = .ok (d, o2) M2 :=
  bind_of ha (by dsimp only; rw [hf]; dsimp only; rw [hn]; dsimp only; exact noExc_of h)
/-- a method -/
theorem ev_meth {m : PySem.Str} {cn n : Nat} {pm : List Nat} {vs vs' : List D} {ds' : List D} {r : R (D × Bool)} (ha : den X a e M = .ok (.ins cn ds', o1) M1) (hn : methNo cn m = some n) (hv : denL X es e M1 = .ok vs M2) (hp : mapO (fun i => vs[i]?) pm = some vs') (h : X.F n (.ins cn ds' :: vs') M2 = r) :
    den X (.meth m a es pm) e M = r :=
  bind_of ha (by dsimp only; rw [hn]; dsimp only; exact bind_of hv (by rw [hp]; exact h))
/-- a construction -/
theorem ev_mkc {cn f : Nat} (ha : den X a e M = .ok (x, o1) M1) (h : X.F f [x] M1 = .ok (d, o2) M2) : den X (.mkc cn f a) e M = .ok (.ins cn [x], false) M2 :=
  bind_of ha (bind_of h rfl)
theorem w_setPop {i j : Nat} {k : C} {l : List D} {z : Nat} {v : D} {ss : List S} (ho : ownAt e j = some (.lst l)) (hij : (i != j) = true) (hk : den X k e M = .ok (.int z, o1) M1) (hz : l[z]? = some v) (h2 : Wp (denSs X ss ((e.set j (some (.lst (l.eraseIdx z), true))).set i (some (v, false))) M1) Q) : Wp (denSs X (.setPop i j k :: ss) e M) Q := by
  refine w_cons (e' := (e.set j (some (.lst (l.eraseIdx z), true))).set i (some (v, false))) (M1 := M1) ?_ h2
  show (match ownAt e j with
    | some (.lst r) => if i != j then MM.bind (den X k e) fun y => match popL (.lst r) y.1 with
      | some (d, r') => MM.pure (Fl.nx ((e.set j (some (r', true))).set i (some (d, false))))
      | none => bad
      else bad
    | _ => bad) M = _
  rw [ho]
  dsimp only
  rw [if_pos hij]
  refine bind_of hk ?_
  have hl := (List.getElem?_eq_some_iff.mp hz).1
  have : popL (.lst l) (.int (z : Int)) = some (v, .lst (l.eraseIdx z)) := by
    show ((ixN l.length (z : Int)).bind fun j => l[j]?.map fun y => (y, D.lst (l.eraseIdx j))) = _
    have hx : ixN l.length (z : Int) = some z := by
      unfold ixN
      rw [if_pos (by omega), if_pos (by simpa using hl)]; simp
    rw [hx]
    show (l[z]?.map fun y => (y, D.lst (l.eraseIdx z))) = _
    rw [hz]; rfl
  rw [this]; rfl
end
end MP
end

section
set_option linter.all false
set_option Elab.async false
set_option maxRecDepth 100000
set_option maxHeartbeats 4000000
namespace MP
/-! evaluation by unification: answers are found, not told -/
section
variable {X : Ctx} {e e' : Env} {M M1 M2 M3 : Mem} {a b c : C} {x y d : D} {o1 o2 o3 : Bool} {es cs : List C} {ds : List D}
/-- a program's context -/
@[reducible] def Ck (P : Pg) (k : Nat) : Ctx := ⟨run P k, fun x => P.consts.lookup x, P.rp⟩
theorem run_of {P : Pg} {k f : Nat} {fn : Fn} {ds : List D} {r : R (D × Bool)} (hf : P.fns.lookup f = some fn) (hk : 1 ≤ k) (h : fnRun (Ck P (k - 1)) fn ds M = r) : run P k f ds M = r := by
  obtain ⟨k, rfl⟩ : ∃ k', k = k' + 1 := ⟨k - 1, by omega⟩
  subst h
  show (match P.fns.lookup f with
    | some fn => fnRun ⟨run P k, fun x => P.consts.lookup x, P.rp⟩ fn ds
    | none => bad) M = _
  rw [hf]; rfl
/-- a comprehension: its elements, as they are found -/
theorem av_map {α : Type} {xs : List α} {g : α → D} {h : α → D} {t : Tn} {k : ItK} {as : List C} {own : List Nat} {ex : α → Env} (he : denL X as e M = .ok ds M1) (hi : itO k ds = some (xs.map g)) (hb : ∀ x ∈ xs, bindT false t (g x) (wipeE e own) = some (ex x)) (hel : ∀ x ∈ xs, ∃ o, den X a (ex x) M1 = .ok (h x, o) M1) (hl : xs.length ≤ szLine) :
    den X (.lc a t k as [] own) e M = .ok (.lst (xs.map h), true) M1 := ev_map xs g h ex he hi hl hb hel
theorem av_lc {α : Type} {xs : List α} {g : α → D} {p : α → Bool} {h : α → D} {t : Tn} {k : ItK} {as : List C} {own : List Nat} {ex : α → Env} (he : denL X as e M = .ok ds M1) (hi : itO k ds = some (xs.map g)) (hb : ∀ x ∈ xs, bindT false t (g x) (wipeE e own) = some (ex x)) (hc : ∀ x ∈ xs, ∃ o, den X c (ex x) M1 = .ok (.bl (p x), o) M1) (hel : ∀ x ∈ xs, p x = true → ∃ o, den X a (ex x) M1 = .ok (h x, o) M1) (hl : xs.length ≤ szLine) :
    den X (.lc a t k as [c] own) e M = .ok (.lst ((xs.filter p).map h), true) M1 := ev_lc xs g p h ex he hi hl hb (fun x hx => let ⟨_, h⟩ := hc x hx; evt_one h) hel
theorem av_ite {p : Bool} {i j : D} {o oi oj : Bool} (hc : den X c e M = .ok (.bl p, o3) M1) (ha : p = true → den X a e M1 = .ok (i, oi) M1) (hb : p = false → den X b e M1 = .ok (j, oj) M1) (hd : (if p then i else j) = d) (ho : (if p then oi else oj) = o) : den X (.ite c a b) e M = .ok (d, o) M1 := by
  subst hd ho
  cases p with
  | true => exact ev_iteT hc (ha rfl)
  | false => exact ev_iteF hc (hb rfl)
theorem ite_own {p o : Bool} : (if p then o else o) = o := by cases p <;> rfl
theorem ite_lst {p : Bool} {i j : List D} : (if p then D.lst i else D.lst j) = D.lst (if p then i else j) := by cases p <;> rfl
theorem ite_tup {p : Bool} {i j : List D} : (if p then D.tup i else D.tup j) = D.tup (if p then i else j) := by cases p <;> rfl
theorem ite_any {i j : D} {p : Bool} : (if p then i else j) = (if p then i else j) := rfl
theorem ite_ob {i j : Bool} {p : Bool} : (if p then i else j) = (if p then i else j) := rfl
theorem ite_int {p : Bool} {i j : Int} : (if p then D.int i else D.int j) = D.int (if p then i else j) := by cases p <;> rfl
theorem ite_str {p : Bool} {i j : List Nat} : (if p then D.str i else D.str j) = D.str (if p then i else j) := by cases p <;> rfl
theorem ite_bl {p : Bool} {i j : Bool} : (if p then D.bl i else D.bl j) = D.bl (if p then i else j) := by cases p <;> rfl
theorem av_slc {lo hi : C} {u : D} (ha : den X a e M = .ok (x, o1) M1) (hb : den X lo e M1 = .ok (u, o2) M2) (hc : den X hi e M2 = .ok (y, o3) M3) (hp : partOk lo u = true) (hq : partOk hi y = true) (h : slcO x u y = some d) {o : Bool} (ho : isL d = o) : den X (.slc a lo hi) e M = .ok (d, o) M3 :=
  ev_slc ha hb hp hc hq h ho
theorem av_mth {mt : Mt} (ha : den X a e M = .ok (x, o1) M1) (hb : denL X es e M1 = .ok ds M2) (hr : rcv mt x = true) (h : mthO mt x ds = some d) {o : Bool} (ho : isL d = o) : den X (.mth mt a es) e M = .ok (d, o) M2 := ev_mth ha hr hb h ho
theorem av_rev (ha : den X a e M = .ok (x, o1) M1) (h : revO x = some d) {o : Bool} (ho : isL d = o) : den X (.rev a) e M = .ok (d, o) M1 := by
  subst ho
  exact bind_of ha (by rw [h]; cases d <;> rfl)
theorem av_ix (ha : den X a e M = .ok (x, o1) M1) (hb : den X b e M1 = .ok (y, o2) M2) (h : idxO x y = some d) (hx : isM x = false) : den X (.idx a b) e M = .ok (d, false) M2 := ev_ix ha hb hx h
/-- what stands in a program: a def, a constant -/
class HFn (P : Pg) (i : Nat) (f : outParam Fn) : Prop where
  h : P.fns.lookup i = some f
class HCon (P : Pg) (i : Nat) (d : outParam D) : Prop where
  h : P.consts.lookup i = some d
theorem ev_globC {P : Pg} {k i : Nat} {d : D} [hc : HCon P i d] : den (Ck P k) (.glob i) e M = .ok (d, false) M := ev_glob hc.h
/-- kinds of values -/
theorem io_ss {s : List Nat} : isO (.str s) .str = some true := rfl
theorem io_si {s : List Nat} : isO (.str s) .int = some false := rfl
theorem io_sb {s : List Nat} : isO (.str s) .bool = some false := rfl
theorem io_st {s : List Nat} : isO (.str s) .tuple = some false := rfl
theorem io_ii {s : Int} : isO (.int s) .int = some true := rfl
theorem io_ib {s : Int} : isO (.int s) .bool = some false := rfl
theorem io_is {s : Int} : isO (.int s) .str = some false := rfl
theorem io_it {s : Int} : isO (.int s) .tuple = some false := rfl
theorem io_tt {s : List D} : isO (.tup s) .tuple = some true := rfl
theorem io_ts {s : List D} : isO (.tup s) .str = some false := rfl
theorem io_ti {s : List D} : isO (.tup s) .int = some false := rfl
theorem io_tb {s : List D} : isO (.tup s) .bool = some false := rfl
theorem io_gg {s : List D} : isO (.ins 0 s) .gate = some true := rfl
theorem io_bb {s : List D} : isO (.ins 1 s) .box = some true := rfl
theorem io_gb {s : List D} : isO (.ins 0 s) .box = some false := rfl
theorem io_bg {s : List D} : isO (.ins 1 s) .gate = some false := rfl
/-- what is iterated -/
theorem it_lst {l : List D} : itO .seq [.lst l] = some l := rfl
theorem it_tup {l : List D} : itO .seq [.tup l] = some l := rfl
theorem it_str {s : List Nat} : itO .seq [.str s] = some (s.map fun c => .str [c]) := rfl
theorem it_rng {n : Nat} (h : n < 1000000) : itO .range1 [.int n] = some ((List.range n).map fun (i : Nat) => D.int i) := by
  rw [it_range h]
  unfold rangeL
  simp
theorem it_enum {α : Type} {l : List α} {g : α → D} : itO .enum [.lst (l.map g)] = some (l.zipIdx.map fun p => D.unp [.int (p.2 : Nat), g p.1]) := by
  show some (enumD 0 (l.map g)) = _
  congr 1
  suffices ∀ n, enumD n (l.map g) = (l.zipIdx n).map fun p => D.unp [.int (p.2 : Nat), g p.1] from this 0
  induction l with
  | nil => intro n; rfl
  | cons a l ih => intro n; rw [List.map_cons, enumD, ih]; rfl
/-- subscripts -/
theorem idx_tupN {l : List D} {k : Nat} {d : D} (h : l[k]? = some d) : idxO (.tup l) (.int k) = some d := by
  have hl := (List.getElem?_eq_some_iff.mp h).1
  show ((ixN l.length (k : Int)).bind fun j => l[j]?) = _
  have : ixN l.length (k : Int) = some k := by
    unfold ixN
    rw [if_pos (by omega), if_pos (by simpa using hl)]; simp
  rw [this]; exact h
theorem ix_natL {α : Type} [Inhabited α] {l : List α} {g : α → D} {k : Nat} (h : k < l.length) : idxO (.lst (l.map g)) (.int k) = some (g l[k]!) := idx_lst (by rw [List.getElem?_map, List.getElem?_eq_getElem h]; simp [h])
theorem ix_natT {α : Type} [Inhabited α] {l : List α} {g : α → D} {k : Nat} (h : k < l.length) : idxO (.tup (l.map g)) (.int k) = some (g l[k]!) := idx_tupN (by rw [List.getElem?_map, List.getElem?_eq_getElem h]; simp [h])
theorem ix_natS {s : List Nat} {k : Nat} (h : k < s.length) : idxO (.str s) (.int k) = some (.str [s[k]!]) := by
  have hc : s[k]? = some s[k]! := by rw [List.getElem?_eq_getElem h]; simp [h]
  show ((ixN s.length (k : Int)).bind fun j => s[j]?.map fun c => D.str [c]) = _
  have : ixN s.length (k : Int) = some k := by
    unfold ixN
    rw [if_pos (by omega), if_pos (by simpa using h)]; simp
  rw [this]
  show (s[k]?.map fun c => D.str [c]) = _
  rw [hc]; rfl
theorem ix_intL {α : Type} [Inhabited α] {l : List α} {g : α → D} {i : Int} (h : 0 ≤ i ∧ i < l.length) : idxO (.lst (l.map g)) (.int i) = some (g l[i.toNat]!) := by
  obtain ⟨k, rfl⟩ : ∃ k : Nat, i = k := ⟨i.toNat, by omega⟩
  exact ix_natL (by omega)
theorem ix_intT {α : Type} [Inhabited α] {l : List α} {g : α → D} {i : Int} (h : 0 ≤ i ∧ i < l.length) : idxO (.tup (l.map g)) (.int i) = some (g l[i.toNat]!) := by
  obtain ⟨k, rfl⟩ : ∃ k : Nat, i = k := ⟨i.toNat, by omega⟩
  exact ix_natT (by omega)
theorem ix_intS {s : List Nat} {i : Int} (h : 0 ≤ i ∧ i < s.length) : idxO (.str s) (.int i) = some (.str [s[i.toNat]!]) := by
  obtain ⟨k, rfl⟩ : ∃ k : Nat, i = k := ⟨i.toNat, by omega⟩
  exact ix_natS (by omega)
/-- built-ins -/
theorem bb_lenL {r : D → Option (List Nat)} {l : List D} : biO r .len [.lst l] = some (.int (l.length : Nat)) := rfl
theorem bb_lenT {r : D → Option (List Nat)} {l : List D} : biO r .len [.tup l] = some (.int (l.length : Nat)) := rfl
theorem bb_lenS {r : D → Option (List Nat)} {l : List Nat} : biO r .len [.str l] = some (.int (l.length : Nat)) := rfl
theorem bb_lenLm {α : Type} {r : D → Option (List Nat)} {l : List α} {g : α → D} : biO r .len [.lst (l.map g)] = some (.int (l.length : Nat)) := by rw [bb_lenL, List.length_map]
theorem bb_lenTm {α : Type} {r : D → Option (List Nat)} {l : List α} {g : α → D} : biO r .len [.tup (l.map g)] = some (.int (l.length : Nat)) := by rw [bb_lenT, List.length_map]
theorem bb_tupL {r : D → Option (List Nat)} {l : List D} : biO r .tuple [.lst l] = some (.tup l) := rfl
theorem bb_tupT {r : D → Option (List Nat)} {l : List D} : biO r .tuple [.tup l] = some (.tup l) := rfl
theorem bb_lstL {r : D → Option (List Nat)} {l : List D} : biO r .list [.lst l] = some (.lst l) := rfl
theorem bb_lstT {r : D → Option (List Nat)} {l : List D} : biO r .list [.tup l] = some (.lst l) := rfl
theorem bb_intI {r : D → Option (List Nat)} {i : Int} : biO r .int [.int i] = some (.int i) := rfl
theorem bb_intB {r : D → Option (List Nat)} {i : Bool} : biO r .int [.bl i] = some (.int (if i then 1 else 0)) := rfl
theorem bb_strS {r : D → Option (List Nat)} {i : List Nat} : biO r .str [.str i] = some (.str i) := rfl
theorem bb_absI {r : D → Option (List Nat)} {i : Int} : biO r .abs [.int i] = some (.int (if i < 0 then -i else i)) := rfl
theorem bb_minI {r : D → Option (List Nat)} {i j : Int} : biO r .min [.int i, .int j] = some (.int (if j < i then j else i)) := rfl
theorem bb_maxI {r : D → Option (List Nat)} {i j : Int} : biO r .max [.int i, .int j] = some (.int (if j > i then j else i)) := rfl
theorem bb_all {α : Type} {r : D → Option (List Nat)} {p : α → Bool} {xs : List α} : biO r .all [.lst (xs.map fun x => D.bl (p x))] = some (.bl (xs.all p)) := bi_all p xs
theorem bb_any {α : Type} {r : D → Option (List Nat)} {p : α → Bool} {xs : List α} : biO r .any [.lst (xs.map fun x => D.bl (p x))] = some (.bl (xs.any p)) := bi_any p xs
theorem mapO_mapA {α β : Type} {f : D → Option β} {g : α → D} {h : α → β} (hg : ∀ x, f (g x) = some (h x)) : ∀ xs : List α, mapO f (xs.map g) = some (xs.map h)
  | [] => rfl
  | x :: xs => by rw [List.map_cons, mapO, hg, mapO_mapA hg xs]; rfl
theorem bb_sum {α : Type} {r : D → Option (List Nat)} {f : α → Int} {xs : List α} : biO r .sum [.lst (xs.map fun x => D.int (f x))] = some (.int (xs.map f).sum) := by
  show (mapO unInt _).map _ = _
  rw [mapO_mapA (h := f) (fun _ => rfl)]; rfl
/-- membership -/
theorem nn_strL {α : Type} {f : α → List Nat} {x : List Nat} {xs : List α} : cmpO .inn (.str x) (.lst (xs.map fun y => .str (f y))) = some ((xs.map f).contains x) := by
  rw [show xs.map (fun y => D.str (f y)) = (xs.map f).map .str by simp]; exact in_strL
theorem nn_strT {α : Type} {f : α → List Nat} {x : List Nat} {xs : List α} : cmpO .inn (.str x) (.tup (xs.map fun y => .str (f y))) = some ((xs.map f).contains x) := by
  rw [show xs.map (fun y => D.str (f y)) = (xs.map f).map .str by simp]; exact in_strT
theorem nx_strL {α : Type} {f : α → List Nat} {x : List Nat} {xs : List α} : cmpO .nin (.str x) (.lst (xs.map fun y => .str (f y))) = some (!(xs.map f).contains x) := by
  show (inO _ _).map (!·) = _
  rw [show inO (.str x) (.lst (xs.map fun y => D.str (f y))) = some ((xs.map f).contains x) from nn_strL]; rfl
theorem nx_strT {α : Type} {f : α → List Nat} {x : List Nat} {xs : List α} : cmpO .nin (.str x) (.tup (xs.map fun y => .str (f y))) = some (!(xs.map f).contains x) := by
  show (inO _ _).map (!·) = _
  rw [show inO (.str x) (.tup (xs.map fun y => D.str (f y))) = some ((xs.map f).contains x) from nn_strT]; rfl
theorem nn_strS {c : Nat} {s : List Nat} : cmpO .inn (.str [c]) (.str s) = some (s.contains c) := rfl
def isNonB : D → Bool
  | .non => true
  | _ => false
theorem is_nonT {x : D} : cmpO .isT x .non = some (isNonB x) := by cases x <;> rfl
theorem is_nonN {x : D} : cmpO .notT x .non = some (!isNonB x) := by cases x <;> rfl
/-- methods -/
theorem mm_count {s : List Nat} {c : Nat} : mthO .count (.str s) [.str [c]] = some (.int (countS s c : Nat)) := rfl
theorem sum_le_mul {n : Nat} : ∀ {ws : List (List Nat)}, (∀ w ∈ ws, w.length ≤ n) → (ws.map (·.length)).sum ≤ ws.length * n
  | [], _ => by simp
  | w :: ws, h => by
    have := sum_le_mul (ws := ws) fun w hw => h w (by simp [hw])
    have := h w (by simp)
    rw [List.map_cons, List.sum_cons, List.length_cons, Nat.add_mul]; omega
theorem mm_joinL {α : Type} {s : List Nat} {xs : List α} {f : α → List Nat} (h : ((xs.map f).map (·.length)).sum + xs.length * s.length ≤ szLine) : mthO .join (.str s) [.lst (xs.map fun x => .str (f x))] = some (.str (joinL s (xs.map f))) := by
  show (mapO unStr (xs.map fun x => D.str (f x))).bind (fun ws => if (ws.map (·.length)).sum + ws.length * s.length ≤ szLine then some (D.str (joinL s ws)) else none) = _
  rw [mapO_mapA (h := f) (fun _ => rfl), Option.bind_some, if_pos (by rw [List.length_map]; exact h)]
theorem mm_joinT {α : Type} {s : List Nat} {xs : List α} {f : α → List Nat} (h : ((xs.map f).map (·.length)).sum + xs.length * s.length ≤ szLine) : mthO .join (.str s) [.tup (xs.map fun x => .str (f x))] = some (.str (joinL s (xs.map f))) := by
  show (mapO unStr (xs.map fun x => D.str (f x))).bind (fun ws => if (ws.map (·.length)).sum + ws.length * s.length ≤ szLine then some (D.str (joinL s ws)) else none) = _
  rw [mapO_mapA (h := f) (fun _ => rfl), Option.bind_some, if_pos (by rw [List.length_map]; exact h)]
theorem bi_mulS {s : List Nat} {n : Nat} (h : n < 1000000) (h2 : s.length * n ≤ szLine) : binO .mul (.str s) (.int n) = some (.str (List.replicate n s).flatten) := by
  show (if (0 ≤ (n : Int) && decide ((n : Int) < 1000000) && decide (s.length * (n : Int).toNat ≤ szLine)) = true then some (D.str (List.replicate (n : Int).toNat s).flatten) else none) = _
  rw [if_pos (by simp; omega)]; simp
theorem bi_mulSi {s : List Nat} {n : Int} (h0 : 0 ≤ n) (h : n < 1000000) (h2 : s.length * n.toNat ≤ szLine) : binO .mul (.str s) (.int n) = some (.str (List.replicate n.toNat s).flatten) := by
  show (if (decide (0 ≤ n) && decide (n < 1000000) && decide (s.length * n.toNat ≤ szLine)) = true then some (D.str (List.replicate n.toNat s).flatten) else none) = _
  rw [if_pos (by simp; omega)]
theorem bi_mulL {s : List D} {n : Nat} (h : n < 1000000) (h2 : s.length * n ≤ szLine) : binO .mul (.lst s) (.int n) = some (.lst (List.replicate n s).flatten) := by
  show (if (0 ≤ (n : Int) && decide ((n : Int) < 1000000) && decide (s.length * (n : Int).toNat ≤ szLine)) = true then some (D.lst (List.replicate (n : Int).toNat s).flatten) else none) = _
  rw [if_pos (by simp; omega)]; simp
theorem mm_indexS {s : List Nat} {c : Nat} (h : s.contains c = true) : mthO .index (.str s) [.str [c]] = some (.int (s.idxOf c : Nat)) := if_pos h
/-- slices -/
theorem cut_take {α : Type} {l : List α} {i : Int} (h : 0 ≤ i) : cut l .non (.int i) = some (l.take i.toNat) := by
  show some ((l.drop 0).take ((if i < 0 then (i + (l.length : Int)).toNat else min i.toNat l.length) - 0)) = _
  rw [if_neg (by omega)]
  simp only [List.drop_zero, Nat.sub_zero]
  congr 1
  rcases Nat.le_total i.toNat l.length with h2 | h2
  · rw [Nat.min_eq_left h2]
  · rw [Nat.min_eq_right h2, List.take_of_length_le (Nat.le_refl _), List.take_of_length_le h2]
theorem cut_drop {α : Type} {l : List α} {i : Int} (h : 0 ≤ i) : cut l (.int i) .non = some (l.drop i.toNat) := by
  show some ((l.drop (if i < 0 then (i + (l.length : Int)).toNat else min i.toNat l.length)).take (l.length - (if i < 0 then (i + (l.length : Int)).toNat else min i.toNat l.length))) = _
  rw [if_neg (by omega)]
  congr 1
  rcases Nat.le_total i.toNat l.length with h2 | h2
  · rw [Nat.min_eq_left h2, List.take_of_length_le (by simp)]
  · rw [Nat.min_eq_right h2, List.drop_of_length_le h2]; simp
theorem cut_mid {α : Type} {l : List α} {i j : Int} (h : 0 ≤ i) (h2 : 0 ≤ j) : cut l (.int i) (.int j) = some ((l.take j.toNat).drop i.toNat) := by
  show some ((l.drop (if i < 0 then (i + (l.length : Int)).toNat else min i.toNat l.length)).take ((if j < 0 then (j + (l.length : Int)).toNat else min j.toNat l.length) - (if i < 0 then (i + (l.length : Int)).toNat else min i.toNat l.length))) = _
  rw [if_neg (by omega), if_neg (by omega), List.drop_take]
  congr 1
  apply List.ext_getElem?
  intro m
  simp only [List.getElem?_take, List.getElem?_drop]
  split <;> split <;> first | rfl | (rw [List.getElem?_eq_none (by omega)]) | (rw [List.getElem?_eq_none (by omega)]; done) | (symm; rw [List.getElem?_eq_none (by omega)]) | (congr 1; omega) | omega
theorem sl_tkL {α : Type} {l : List α} {g : α → D} {i : Int} (h : 0 ≤ i) : slcO (.lst (l.map g)) .non (.int i) = some (.lst ((l.take i.toNat).map g)) := by
  unfold slcO
  dsimp only
  rw [cut_take h, List.map_take]; rfl
theorem sl_tkT {α : Type} {l : List α} {g : α → D} {i : Int} (h : 0 ≤ i) : slcO (.tup (l.map g)) .non (.int i) = some (.tup ((l.take i.toNat).map g)) := by
  unfold slcO
  dsimp only
  rw [cut_take h, List.map_take]; rfl
theorem sl_tkS {l : List Nat} {i : Int} (h : 0 ≤ i) : slcO (.str l) .non (.int i) = some (.str (l.take i.toNat)) := by
  unfold slcO
  dsimp only
  rw [cut_take h]; rfl
theorem sl_dpL {α : Type} {l : List α} {g : α → D} {i : Int} (h : 0 ≤ i) : slcO (.lst (l.map g)) (.int i) .non = some (.lst ((l.drop i.toNat).map g)) := by
  unfold slcO
  dsimp only
  rw [cut_drop h, List.map_drop]; rfl
theorem sl_dpT {α : Type} {l : List α} {g : α → D} {i : Int} (h : 0 ≤ i) : slcO (.tup (l.map g)) (.int i) .non = some (.tup ((l.drop i.toNat).map g)) := by
  unfold slcO
  dsimp only
  rw [cut_drop h, List.map_drop]; rfl
theorem sl_dpS {l : List Nat} {i : Int} (h : 0 ≤ i) : slcO (.str l) (.int i) .non = some (.str (l.drop i.toNat)) := by
  unfold slcO
  dsimp only
  rw [cut_drop h]; rfl
theorem sl_mdL {α : Type} {l : List α} {g : α → D} {i j : Int} (h : 0 ≤ i) (h2 : 0 ≤ j) : slcO (.lst (l.map g)) (.int i) (.int j) = some (.lst (((l.take j.toNat).drop i.toNat).map g)) := by
  unfold slcO
  dsimp only
  rw [cut_mid h h2, List.map_drop, List.map_take]; rfl
theorem sl_mdS {l : List Nat} {i j : Int} (h : 0 ≤ i) (h2 : 0 ≤ j) : slcO (.str l) (.int i) (.int j) = some (.str ((l.take j.toNat).drop i.toNat)) := by
  unfold slcO
  dsimp only
  rw [cut_mid h h2]; rfl
/-- the first that a loop finds -/
theorem w_find {α : Type} {t : Tn} {k : ItK} {as : List C} {b ss : List S} {Q : Fl → Mem → Prop} {xs : List α} {g : α → D} (E : Env → Prop) (p : α → Bool) (h : denL X as e M = .ok ds M1) (hi : itO k ds = some (xs.map g)) (h0 : E e)
    (hs : ∀ (x : α) (e : Env), x ∈ xs → E e → ∃ e1, bindT false t (g x) e = some e1 ∧ (p x = true → xs.find? p = some x → Wp (denSs X b e1 M1) (fun fl m => ∃ d o, fl = .rt d o ∧ Q fl m)) ∧ (p x = false → Wp (denSs X b e1 M1) (fun fl m => ∃ e', fl = .nx e' ∧ m = M1 ∧ E e')))
    (hk : ∀ e', (∀ x ∈ xs, p x = false) → E e' → Wp (denSs X ss e' M1) Q) : Wp (denSs X (.for_ t k as b :: ss) e M) Q := by
  have main : ∀ (pre post : List α) (e : Env), xs = pre ++ post → (∀ x ∈ pre, p x = false) → E e → Wp (forL (fun d e => match bindT false t d e with
      | some e' => denSs X b e'
      | none => bad) (post.map g) e M1) (fun fl m => match fl with | .nx e' => m = M1 ∧ E e' ∧ ∀ x ∈ xs, p x = false | .rt d o => Q (.rt d o) m) := by
    intro pre post
    induction post generalizing pre with
    | nil =>
      intro e hx hp hE
      rw [List.append_nil] at hx
      subst hx
      exact ⟨.nx e, M1, rfl, rfl, hE, hp⟩
    | cons x post ih =>
      intro e hx hp hE
      obtain ⟨e1, h1, h2, h3⟩ := hs x e (by rw [hx]; simp) hE
      have step : forL (fun d e => match bindT false t d e with
        | some e' => denSs X b e'
        | none => bad) ((x :: post).map g) e M1 = MM.bind (denSs X b e1) (fun f => match f with
          | .nx e' => forL (fun d e => match bindT false t d e with
            | some e' => denSs X b e'
            | none => bad) (post.map g) e'
          | .rt d o => MM.pure (.rt d o)) M1 := by
        show MM.bind (match bindT false t (g x) e with
          | some e' => denSs X b e'
          | none => bad) _ M1 = _
        first
          | (rw [h1]; done)
          | (rw [h1]; rfl)
      cases hq : p x with
      | true =>
        have hf : xs.find? p = some x := by
          rw [hx, List.find?_append, List.find?_eq_none.mpr (fun y hy => by rw [hp y hy]; simp)]
          simp [hq]
        obtain ⟨fl, m, q1, d, o, rfl, q2⟩ := h2 hq hf
        exact ⟨.rt d o, m, step.trans (bind_of q1 rfl), q2⟩
      | false =>
        obtain ⟨fl, m, q1, e', rfl, rfl, q2⟩ := h3 hq
        obtain ⟨fl, m, q3, q4⟩ := ih (pre ++ [x]) e' (by rw [hx]; simp) (fun y hy => by
          rcases List.mem_append.mp hy with hy | hy
          · exact hp y hy
          · rw [List.mem_singleton.mp hy]; exact hq) q2
        exact ⟨fl, m, step.trans (bind_of q1 q3), q4⟩
  obtain ⟨fl, m, h1, h2⟩ := main [] xs e rfl (by simp) h0
  cases fl with
  | nx e' =>
    obtain ⟨rfl, hE, hp⟩ := h2
    exact w_cons (st_for h hi h1) (hk e' hp hE)
  | rt d o => exact ⟨.rt d o, m, st_stop (st_for h hi h1), h2⟩
/-- comprehensions of two clauses -/
theorem loopL_flat {α : Type} (g : α → D) (r : α → List D) {step : D → List D → MM (List D)} : ∀ (xs : List α) (acc : List D), (∀ x ∈ xs, ∀ acc : List D, acc.length + (r x).length ≤ szLine → step (g x) acc M = .ok (acc ++ r x) M) → acc.length + (xs.flatMap r).length ≤ szLine →
    loopL step (xs.map g) acc M = .ok (acc ++ xs.flatMap r) M
  | [], acc, _, _ => by show R.ok acc M = _; simp
  | x :: xs, acc, hs, hl => by
    rw [List.flatMap_cons, List.length_append] at hl
    have h1 := hs x (by simp) acc (by omega)
    show MM.bind (step (g x) acc) _ M = _
    refine bind_of h1 ?_
    have ih := fun acc' hh => loopL_flat g r (step := step) xs acc' (fun y hy => hs y (by simp [hy])) hh
    rw [ih _ (by rw [List.length_append]; omega), List.flatMap_cons, List.append_assoc]
theorem av_lc20 {α β : Type} {xs : List α} {g : α → D} {ys : α → List β} {g1 : α → β → D} {h : α → β → D} {t t1 : Tn} {k k1 : ItK} {as as1 : List C} {own own1 : List Nat} {ex : α → Env} {ex1 : α → β → Env} {ds1 : α → List D}
    (he : denL X as e M = .ok ds M1) (hi : itO k ds = some (xs.map g)) (hb : ∀ x ∈ xs, bindT false t (g x) (wipeE e own) = some (ex x)) (he1 : ∀ x ∈ xs, denL X as1 (ex x) M1 = .ok (ds1 x) M1) (hi1 : ∀ x ∈ xs, itO k1 (ds1 x) = some ((ys x).map (g1 x)))
    (hb1 : ∀ x ∈ xs, ∀ y ∈ ys x, bindT false t1 (g1 x y) (wipeE (ex x) own1) = some (ex1 x y)) (hel : ∀ x ∈ xs, ∀ y ∈ ys x, ∃ o, den X a (ex1 x y) M1 = .ok (h x y, o) M1) (hl : (xs.flatMap fun x => (ys x).map (h x)).length ≤ szLine) :
    den X (.lc2 a t k as [] t1 k1 as1 [] own own1) e M = .ok (.lst (xs.flatMap fun x => (ys x).map (h x)), true) M1 := by
  refine bind_of he ?_
  rw [hi]
  refine bind_of (noExc_of (a := xs.flatMap fun x => (ys x).map (h x)) (M' := M1) ?_) rfl
  have := loopL_flat (M := M1) g (fun x => (ys x).map (h x)) (step := fun d acc => match bindT false t d (wipeE e own) with
        | none => bad
        | some e1 => MM.bind (denT X [] e1) fun b => if b then MM.bind (denL X as1 e1) fun ds1 => match itO k1 ds1 with
            | none => bad
            | some items1 => loopL (fun d1 acc => match bindT false t1 d1 (wipeE e1 own1) with
              | none => bad
              | some e2 => MM.bind (denT X [] e2) fun b1 => if b1 then MM.bind (den X a e2) fun y => if acc.length < szLine then MM.pure (acc ++ [y.1]) else bad else MM.pure acc) items1 acc
          else MM.pure acc) xs [] ?_ (by simpa using hl)
  · rw [List.nil_append] at this; exact this
  · intro x hx acc hacc
    rw [hb x hx]
    dsimp only
    refine bind_of (v := true) (M1 := M1) rfl ?_
    rw [if_pos rfl]
    refine bind_of (he1 x hx) ?_
    rw [hi1 x hx]
    dsimp only
    rw [List.length_map] at hacc
    have h2 := loopL_pure (M := M1) (g1 x) (fun _ => true) (h x) (step := fun d1 acc => match bindT false t1 d1 (wipeE (ex x) own1) with
              | none => bad
              | some e2 => MM.bind (denT X [] e2) fun b1 => if b1 then MM.bind (den X a e2) fun y => if acc.length < szLine then MM.pure (acc ++ [y.1]) else bad else MM.pure acc) (ys x) acc ?_ hacc
    · rw [List.filter_eq_self.mpr (fun _ _ => rfl)] at h2
      exact h2
    · intro y hy acc hacc
      obtain ⟨o, hd⟩ := hel x hx y hy
      rw [hb1 x hx y hy]
      dsimp only
      refine bind_of (v := true) (M1 := M1) rfl ?_
      rw [if_pos rfl]
      refine bind_of hd ?_
      rw [if_pos hacc]; rfl
theorem av_lc2c0 {α β : Type} {xs : List α} {g : α → D} {ys : α → List β} {g1 : α → β → D} {p : α → β → Bool} {h : α → β → D} {t t1 : Tn} {k k1 : ItK} {as as1 : List C} {own own1 : List Nat} {ex : α → Env} {ex1 : α → β → Env} {ds1 : α → List D}
    (he : denL X as e M = .ok ds M1) (hi : itO k ds = some (xs.map g)) (hb : ∀ x ∈ xs, bindT false t (g x) (wipeE e own) = some (ex x)) (he1 : ∀ x ∈ xs, denL X as1 (ex x) M1 = .ok (ds1 x) M1) (hi1 : ∀ x ∈ xs, itO k1 (ds1 x) = some ((ys x).map (g1 x)))
    (hb1 : ∀ x ∈ xs, ∀ y ∈ ys x, bindT false t1 (g1 x y) (wipeE (ex x) own1) = some (ex1 x y)) (hc : ∀ x ∈ xs, ∀ y ∈ ys x, ∃ o, den X c (ex1 x y) M1 = .ok (.bl (p x y), o) M1) (hel : ∀ x ∈ xs, ∀ y ∈ ys x, p x y = true → ∃ o, den X a (ex1 x y) M1 = .ok (h x y, o) M1) (hl : (xs.flatMap ys).length ≤ szLine) :
    den X (.lc2 a t k as [] t1 k1 as1 [c] own own1) e M = .ok (.lst (xs.flatMap fun x => ((ys x).filter (p x)).map (h x)), true) M1 := by
  refine bind_of he ?_
  rw [hi]
  refine bind_of (noExc_of (a := xs.flatMap fun x => ((ys x).filter (p x)).map (h x)) (M' := M1) ?_) rfl
  have main : ∀ (xs' : List α) (acc : List D), (∀ x ∈ xs', x ∈ xs) → acc.length + (xs'.flatMap ys).length ≤ szLine → loopL (fun d acc => match bindT false t d (wipeE e own) with
        | none => bad
        | some e1 => MM.bind (denT X [] e1) fun b => if b then MM.bind (denL X as1 e1) fun ds1 => match itO k1 ds1 with
            | none => bad
            | some items1 => loopL (fun d1 acc => match bindT false t1 d1 (wipeE e1 own1) with
              | none => bad
              | some e2 => MM.bind (denT X [c] e2) fun b1 => if b1 then MM.bind (den X a e2) fun y => if acc.length < szLine then MM.pure (acc ++ [y.1]) else bad else MM.pure acc) items1 acc
          else MM.pure acc) (xs'.map g) acc M1 = .ok (acc ++ xs'.flatMap fun x => ((ys x).filter (p x)).map (h x)) M1 := by
    intro xs'
    induction xs' with
    | nil => intro acc _ _; show R.ok acc M1 = _; simp
    | cons x xs' ih =>
      intro acc hin hacc
      have hx := hin x (by simp)
      rw [List.flatMap_cons, List.length_append] at hacc
      show MM.bind (match bindT false t (g x) (wipeE e own) with
        | none => bad
        | some e1 => MM.bind (denT X [] e1) fun b => if b then MM.bind (denL X as1 e1) fun ds1 => match itO k1 ds1 with
            | none => bad
            | some items1 => loopL (fun d1 acc => match bindT false t1 d1 (wipeE e1 own1) with
              | none => bad
              | some e2 => MM.bind (denT X [c] e2) fun b1 => if b1 then MM.bind (den X a e2) fun y => if acc.length < szLine then MM.pure (acc ++ [y.1]) else bad else MM.pure acc) items1 acc
          else MM.pure acc) _ M1 = _
      refine bind_of (v := acc ++ ((ys x).filter (p x)).map (h x)) (M1 := M1) ?_ ?_
      · rw [hb x hx]
        dsimp only
        refine bind_of (v := true) (M1 := M1) rfl ?_
        rw [if_pos rfl]
        refine bind_of (he1 x hx) ?_
        rw [hi1 x hx]
        dsimp only
        refine loopL_pure (M := M1) (g1 x) (p x) (h x) (ys x) acc ?_ (by omega)
        intro y hy acc hacc
        obtain ⟨o, hd⟩ := hc x hx y hy
        rw [hb1 x hx y hy]
        dsimp only
        refine bind_of (evt_one hd) ?_
        cases hp : p x y with
        | true =>
          obtain ⟨o, hd⟩ := hel x hx y hy hp
          rw [if_pos rfl]
          refine bind_of hd ?_
          rw [if_pos hacc]; rfl
        | false => rfl
      · have hlen : (((ys x).filter (p x)).map (h x)).length ≤ (ys x).length := by rw [List.length_map]; exact List.length_filter_le _ _
        rw [ih _ (fun y hy => hin y (by simp [hy])) (by rw [List.length_append]; omega), List.flatMap_cons, List.append_assoc]
  have := main xs [] (fun _ h => h) (by simpa using hl)
  rw [List.nil_append] at this; exact this
theorem flat_pair {α β : Type} (h : α → β → D) (ys : α → List β) : ∀ xs : List α, (xs.flatMap fun x => (ys x).map (h x)) = (xs.flatMap fun x => (ys x).map fun y => (x, y)).map fun p => h p.1 p.2
  | [] => rfl
  | x :: xs => by rw [List.flatMap_cons, List.flatMap_cons, List.map_append, flat_pair h ys xs, List.map_map]; rfl
theorem av_lc2 {α β : Type} {xs : List α} {g : α → D} {ys : α → List β} {g1 : α → β → D} {h : α → β → D} {t t1 : Tn} {k k1 : ItK} {as as1 : List C} {own own1 : List Nat} {ex : α → Env} {ex1 : α → β → Env} {ds1 : α → List D}
    (he : denL X as e M = .ok ds M1) (hi : itO k ds = some (xs.map g)) (hb : ∀ x ∈ xs, bindT false t (g x) (wipeE e own) = some (ex x)) (he1 : ∀ x ∈ xs, denL X as1 (ex x) M1 = .ok (ds1 x) M1) (hi1 : ∀ x ∈ xs, itO k1 (ds1 x) = some ((ys x).map (g1 x)))
    (hb1 : ∀ x ∈ xs, ∀ y ∈ ys x, bindT false t1 (g1 x y) (wipeE (ex x) own1) = some (ex1 x y)) (hel : ∀ x ∈ xs, ∀ y ∈ ys x, ∃ o, den X a (ex1 x y) M1 = .ok (h x y, o) M1) (hl : (xs.flatMap fun x => (ys x).map fun y => (x, y)).length ≤ szLine) :
    den X (.lc2 a t k as [] t1 k1 as1 [] own own1) e M = .ok (.lst ((xs.flatMap fun x => (ys x).map fun y => (x, y)).map fun p => h p.1 p.2), true) M1 := by
  rw [← flat_pair]
  exact av_lc20 he hi hb he1 hi1 hb1 hel (by rw [flat_pair, List.length_map]; exact hl)
theorem av_lc2c {α β : Type} {xs : List α} {g : α → D} {ys : α → List β} {g1 : α → β → D} {p : α → β → Bool} {h : α → β → D} {t t1 : Tn} {k k1 : ItK} {as as1 : List C} {own own1 : List Nat} {ex : α → Env} {ex1 : α → β → Env} {ds1 : α → List D}
    (he : denL X as e M = .ok ds M1) (hi : itO k ds = some (xs.map g)) (hb : ∀ x ∈ xs, bindT false t (g x) (wipeE e own) = some (ex x)) (he1 : ∀ x ∈ xs, denL X as1 (ex x) M1 = .ok (ds1 x) M1) (hi1 : ∀ x ∈ xs, itO k1 (ds1 x) = some ((ys x).map (g1 x)))
    (hb1 : ∀ x ∈ xs, ∀ y ∈ ys x, bindT false t1 (g1 x y) (wipeE (ex x) own1) = some (ex1 x y)) (hc : ∀ x ∈ xs, ∀ y ∈ ys x, ∃ o, den X c (ex1 x y) M1 = .ok (.bl (p x y), o) M1) (hel : ∀ x ∈ xs, ∀ y ∈ ys x, p x y = true → ∃ o, den X a (ex1 x y) M1 = .ok (h x y, o) M1) (hl : (xs.flatMap ys).length ≤ szLine) :
    den X (.lc2 a t k as [] t1 k1 as1 [c] own own1) e M = .ok (.lst ((xs.flatMap fun x => ((ys x).filter (p x)).map fun y => (x, y)).map fun p => h p.1 p.2), true) M1 := by
  rw [← flat_pair]
  exact av_lc2c0 he hi hb he1 hi1 hb1 hc hel hl
/-- a fold: a loop that goes through and keeps the store -/
theorem w_fold {α β : Type} {t : Tn} {k : ItK} {as : List C} {b ss : List S} {Q : Fl → Mem → Prop} {xs : List α} {g : α → D} (E : β → Env → Prop) (f : β → α → β) (b0 : β) (h : denL X as e M = .ok ds M1) (hi : itO k ds = some (xs.map g)) (h0 : E b0 e)
    (hs : ∀ (x : α) (j : Nat) (e : Env), xs[j]? = some x → E ((xs.take j).foldl f b0) e → ∃ e1, bindT false t (g x) e = some e1 ∧ Wp (denSs X b e1 M1) (fun fl m => ∃ e', fl = .nx e' ∧ m = M1 ∧ E (f ((xs.take j).foldl f b0) x) e'))
    (hk : ∀ e', E (xs.foldl f b0) e' → Wp (denSs X ss e' M1) Q) : Wp (denSs X (.for_ t k as b :: ss) e M) Q := by
  refine w_for (items := xs.map g) (fun j e M' => M' = M1 ∧ E ((xs.take j).foldl f b0) e) h hi ⟨rfl, h0⟩ ?_ ?_
  · rintro j d e M' hj ⟨rfl, hE⟩
    rw [List.getElem?_map] at hj
    obtain ⟨x, hx, rfl⟩ := Option.map_eq_some_iff.mp hj
    obtain ⟨e1, h1, h2⟩ := hs x j e hx hE
    refine ⟨e1, h1, h2.imp fun fl m hh => ?_⟩
    obtain ⟨e', h3, h4, h5⟩ := hh
    refine ⟨e', h3, h4, ?_⟩
    rw [List.take_add_one, hx]
    simpa using h5
  · rintro e' M' ⟨rfl, hE⟩
    rw [List.length_map, List.take_length] at hE
    exact hk e' hE
end
end MP
end

section
set_option Elab.async false
set_option maxRecDepth 100000
namespace MP
open PySem
def f_is_bits : Fn := ⟨4, 2, [(.ret (.and (.isi (.var 0) .str) (.and (.cmp .eq (.bi .len [(.var 0)]) (.var 1)) (.bi .all [(.lc (.cmp .inn (.var 3) (.glob 6)) (.name 3) .seq [(.var 0)] [] [2, 3])]))))], 0⟩
def f_place_of : Fn := ⟨3, 1, [(.set 1 false (.int 0)), (.for_ (.name 2) .seq [(.var 0)] [(.set 1 false (.bin .add (.bin .mul (.int 2) (.var 1)) (.ite (.cmp .eq (.var 2) (.str [49])) (.int 1) (.int 0))))]), (.ret (.var 1))], 0⟩
def f_check_table : Fn := ⟨3, 1, [(.ite (.or (.not (.isi (.var 0) .tuple)) (.cmp .nin (.bi .len [(.var 0)]) (.glob 7))) [(.raise 0 [])] []), (.set 1 false (.bin .add (.mth .index (.glob 7) [(.bi .len [(.var 0)])]) (.int 1))), (.for_ (.name 2) .range1 [(.bi .len [(.var 0)])] [(.ite (.or (.not (.call 0 [(.idx (.var 0) (.var 2)), (.var 1)])) (.cmp .inn (.idx (.var 0) (.var 2)) (.slc (.var 0) .non (.var 2)))) [(.raise 0 [])] [])])], 0⟩
def f_check_row : Fn := ⟨2, 2, [(.ite (.not (.call 0 [(.var 0), (.var 1)])) [(.raise 0 [])] [])], 0⟩
def f_all_rows : Fn := ⟨6, 1, [(.set 1 true (.lst [(.str [])])), (.for_ (.name 2) .range1 [(.var 0)] [(.share 1), (.set 1 true (.lc2 (.bin .add (.var 4) (.var 5)) (.name 4) .seq [(.var 1)] [] (.name 5) .seq [(.glob 6)] [] [3, 4, 5] [5]))]), (.retO 1)], 0⟩
def f_check_gate : Fn := ⟨1, 1, [(.ite (.not (.isi (.var 0) .gate)) [(.raise 0 [])] [])], 0⟩
def f_ones : Fn := ⟨1, 1, [(.ret (.mth .count (.var 0) [(.str [49])]))], 0⟩
def f_turned : Fn := ⟨3, 1, [(.ret (.mth .join (.str []) [(.lc (.ite (.cmp .eq (.var 2) (.str [49])) (.str [48]) (.str [49])) (.name 2) .seq [(.var 0)] [] [1, 2])]))], 0⟩
def f_turned_if : Fn := ⟨5, 3, [(.ret (.mth .join (.str []) [(.lc (.ite (.and (.var 2) (.cmp .inn (.var 4) (.var 1))) (.call 11 [(.idx (.var 0) (.var 4))]) (.idx (.var 0) (.var 4))) (.name 4) .range1 [(.bi .len [(.var 0)])] [] [3, 4])]))], 0⟩
def f_exchanged_last : Fn := ⟨1, 1, [(.ret (.ite (.cmp .eq (.idx (.var 0) (.int 0)) (.str [49])) (.bin .add (.bin .add (.str [49]) (.idx (.var 0) (.int 2))) (.idx (.var 0) (.int 1))) (.var 0)))], 0⟩
def f_ring : Fn := ⟨1, 1, [(.ret (.ite (.cmp .inn (.call 10 [(.var 0)]) (.tup [(.int 0), (.bi .len [(.var 0)])])) (.call 11 [(.var 0)]) (.var 0)))], 0⟩
def f_odd : Fn := ⟨1, 1, [(.ret (.ite (.cmp .inn (.call 10 [(.var 0)]) (.tup [(.int 1), (.int 3), (.int 5)])) (.call 11 [(.var 0)]) (.var 0)))], 0⟩
def f_even : Fn := ⟨1, 1, [(.ret (.ite (.cmp .inn (.call 10 [(.var 0)]) (.tup [(.int 1), (.int 3), (.int 5)])) (.var 0) (.call 11 [(.var 0)])))], 0⟩
def f_given_for : Fn := ⟨2, 2, [(.ite (.cmp .eq (.var 0) (.str [98, 111, 116, 104])) [(.ret (.call 12 [(.var 1), (.tup [(.int 2)]), (.cmp .eq (.slc (.var 1) .non (.int 2)) (.str [49, 49]))]))] []), (.ite (.cmp .eq (.var 0) (.str [99, 104, 111, 111, 115, 101])) [(.ret (.call 13 [(.var 1)]))] []), (.ite (.cmp .eq (.var 0) (.str [108, 101, 97, 100])) [(.ret (.call 12 [(.var 1), (.tup [(.int 1)]), (.cmp .eq (.idx (.var 1) (.int 0)) (.str [49]))]))] []), (.ite (.cmp .eq (.var 0) (.str [108, 101, 97, 100, 115])) [(.ret (.call 12 [(.var 1), (.tup [(.int 1), (.int 2)]), (.cmp .eq (.idx (.var 1) (.int 0)) (.str [49]))]))] []), (.ite (.cmp .eq (.var 0) (.str [115, 119, 97, 112])) [(.ret (.rev (.var 1)))] []), (.ite (.cmp .eq (.var 0) (.str [101, 118, 101, 110, 52])) [(.ret (.call 16 [(.var 1)]))] []), (.ite (.cmp .inn (.var 0) (.tup [(.str [116, 117, 114, 110]), (.str [116, 117, 114, 110, 115])])) [(.ret (.call 11 [(.var 1)]))] []), (.ret (.ite (.cmp .inn (.var 0) (.tup [(.str [111, 100, 100, 52]), (.str [111, 100, 100, 54])])) (.call 15 [(.var 1)]) (.call 14 [(.var 1)])))], 0⟩
def f_names : Fn := ⟨0, 0, [(.ret (.glob 8))], 0⟩
def f_named : Fn := ⟨4, 1, [(.ite (.not (.isi (.var 0) .str)) [(.raise 0 [])] []), (.ite (.cmp .nin (.var 0) (.glob 8)) [(.raise 0 [])] []), (.set 1 false (.ite (.cmp .inn (.var 0) (.glob 9)) (.idx (.glob 9) (.var 0)) (.bi .int [(.idx (.var 0) (.neg (.int 1)))]))), (.ret (.mkc 0 1000 (.bi .tuple [(.lc (.call 17 [(.var 0), (.var 3)]) (.name 3) .seq [(.call 5 [(.var 1)])] [] [2, 3])])))], 0⟩
def f__law_jar : Fn := ⟨6, 2, [(.set 2 false (.bin .add (.bin .mul (.bin .mul (.int 7369) (.bin .add (.var 1) (.int 5))) (.bin .add (.var 1) (.int 2))) (.bin .mul (.int 29) (.bi .len [(.var 0)])))), (.for_ (.name 3) .seq [(.slc (.var 0) .non (.int 4))] [(.set 2 false (.bin .mod (.bi .int [(.bin .add (.bin .mul (.var 2) (.int 733)) (.var 3))]) (.int 1000000009)))]), (.set 4 false (.ite (.cmp .lt (.var 1) (.bi .len [(.var 0)])) (.idx (.var 0) (.var 1)) (.int 0))), (.set 5 false (.ite (.or (.cmp .lt (.var 4) (.int 0)) (.cmp .ge (.var 4) (.bin .pow (.int 10) (.int 18)))) (.bi .abs [(.var 4)]) (.int 0))), (.ret (.mkmut [(.var 5), (.bin .mod (.bi .int [(.bin .add (.bin .add (.bin .mul (.var 2) (.int 8117)) (.bin .mul (.var 4) (.int 64013))) (.bin .mul (.int 105019) (.bin .add (.var 1) (.int 1))))]) (.int 2147483563)), (.int 0)]))], 0⟩
def f__law_dip : Fn := ⟨4, 2, [(.asg (.msub (.var 0) (.int 2)) (.bin .add (.idx (.var 0) (.int 2)) (.int 1))), (.ite (.cmp .gt (.idx (.var 0) (.int 0)) (.int 0)) [(.set 2 false (.bin .mod (.bi .int [(.idx (.var 0) (.int 0))]) (.var 1))), (.asg (.msub (.var 0) (.int 0)) (.bin .fdiv (.bi .int [(.idx (.var 0) (.int 0))]) (.var 1))), (.ret (.var 2))] []), (.set 3 false (.bi .int [(.idx (.var 0) (.int 1))])), (.asg (.msub (.var 0) (.int 1)) (.bin .mod (.bi .int [(.bin .add (.bin .add (.bin .mul (.var 3) (.int 40692)) (.bin .mul (.idx (.var 0) (.int 2)) (.int 52021))) (.int 31))]) (.int 2147483399))), (.ret (.bin .mod (.bi .int [(.bin .fdiv (.idx (.var 0) (.int 1)) (.int 2048))]) (.var 1)))], 0⟩
def f__law_right : Fn := ⟨5, 1, [(.set 1 true (.call 158 [])), (.while_ (.cmp .ne (.bvar 1) (.lst [])) [(.setPop 2 1 (.call 129 [(.var 0), (.bi .len [(.bvar 1)])])), (.par [(3, false), (4, false)] [(.call 19 [(.var 2)]), (.call 157 [(.var 2)])]), (.ite (.or (.cmp .ne (.attr "table" (.var 3)) (.var 4)) (.or (.cmp .ne (.callp 19 [(.var 2)] [0]) (.var 3)) (.or (.cmp .ne (.var 3) (.mkc 0 1000 (.var 4))) (.cmp .ne (.meth "order" (.var 3) [] []) (.int 2))))) [(.ret (.bl false))] []), (.expr (.meth "then" (.var 3) [(.meth "back" (.var 3) [] [])] [0])), (.ite (.or (.cmp .ne (.attr "table" (.call 19 [(.var 2)])) (.var 4)) (.cmp .ne (.call 18 []) (.bi .tuple [(.call 158 [])]))) [(.ret (.bl false))] [])]), (.ret (.bl true))], 0⟩
def f_law : Fn := ⟨2, 1, [(.for_ (.name 1) .range1 [(.bi .max [(.int 2), (.bi .min [(.bi .len [(.var 0)]), (.int 3)])])] [(.ite (.not (.call 137 [(.call 128 [(.var 0), (.var 1)])])) [(.ret (.bl false))] [])]), (.ret (.bl true))], 0⟩
def f__law_bitrows : Fn := ⟨5, 1, [(.set 1 true (.lst [(.str [])])), (.for_ (.name 2) .range1 [(.var 0)] [(.set 3 true (.lst [])), (.share 1), (.for_ (.name 4) .seq [(.var 1)] [(.share 3), (.set 3 true (.bin .add (.var 3) (.lst [(.bin .add (.var 4) (.str [48])), (.bin .add (.var 4) (.str [49]))])))]), (.move 1 3)]), (.retO 1)], 0⟩
def f__law_weight : Fn := ⟨3, 1, [(.ret (.bi .len [(.lc (.var 2) (.name 2) .seq [(.var 0)] [(.cmp .eq (.var 2) (.str [49]))] [1, 2])]))], 0⟩
def f__law_spin : Fn := ⟨11, 1, [(.set 1 false (.dct [(.str [116, 117, 114, 110]), (.int 1), (.str [115, 119, 97, 112]), (.int 2), (.str [116, 117, 114, 110, 115]), (.int 2), (.str [108, 101, 97, 100]), (.int 2), (.str [108, 101, 97, 100, 115]), (.int 3), (.str [98, 111, 116, 104]), (.int 3), (.str [99, 104, 111, 111, 115, 101]), (.int 3)])), (.set 2 false (.ite (.cmp .inn (.var 0) (.var 1)) (.idx (.var 1) (.var 0)) (.bi .int [(.idx (.var 0) (.neg (.int 1)))]))), (.set 3 true (.lst [])), (.for_ (.name 4) .seq [(.call 139 [(.var 2)])] [(.set 5 false (.call 142 [(.var 4)])), (.set 6 false (.mth .join (.str []) [(.lc (.ite (.cmp .eq (.var 10) (.str [48])) (.str [49]) (.str [48])) (.name 10) .seq [(.var 4)] [] [9, 10])])), (.set 7 false (.bin .add (.slc (.var 4) .non (.int 1)) (.slc (.var 6) (.int 1) .non))), (.set 8 true (.dct [(.str [116, 117, 114, 110]), (.var 6), (.str [116, 117, 114, 110, 115]), (.var 6), (.str [115, 119, 97, 112]), (.rev (.var 4)), (.str [108, 101, 97, 100]), (.ite (.cmp .eq (.idx (.var 4) (.int 0)) (.str [49])) (.var 7) (.var 4))])), (.asg (.sub 8 (.str [108, 101, 97, 100, 115])) (.idx (.bvar 8) (.str [108, 101, 97, 100]))), (.asg (.sub 8 (.str [98, 111, 116, 104])) (.ite (.cmp .eq (.slc (.var 4) .non (.int 2)) (.str [49, 49])) (.bin .add (.slc (.var 4) .non (.int 2)) (.slc (.var 6) (.int 2) .non)) (.var 4))), (.asg (.sub 8 (.str [99, 104, 111, 111, 115, 101])) (.ite (.cmp .eq (.idx (.var 4) (.int 0)) (.str [49])) (.bin .add (.slc (.var 4) .non (.int 1)) (.rev (.slc (.var 4) (.int 1) .non))) (.var 4))), (.asg (.sub 8 (.str [111, 100, 100])) (.ite (.cmp .inn (.var 5) (.lst [(.int 1), (.int 3), (.int 5)])) (.var 6) (.var 4))), (.asg (.sub 8 (.str [101, 118, 101, 110])) (.ite (.cmp .inn (.var 5) (.lst [(.int 1), (.int 3), (.int 5)])) (.var 4) (.var 6))), (.asg (.sub 8 (.str [114, 105, 110, 103])) (.ite (.cmp .inn (.var 5) (.lst [(.int 0), (.var 2)])) (.var 6) (.var 4))), (.append 3 (.ite (.cmp .inn (.var 0) (.bvar 8)) (.idx (.bvar 8) (.var 0)) (.idx (.bvar 8) (.slc (.var 0) .non (.neg (.int 1))))))]), (.ret (.bi .tuple [(.bvar 3)]))], 0⟩
def f__law_words : Fn := ⟨1, 0, [(.set 0 false (.lst [(.str [98, 111, 116, 104]), (.str [99, 104, 111, 111, 115, 101]), (.str [101, 118, 101, 110, 52]), (.str [108, 101, 97, 100]), (.str [108, 101, 97, 100, 115]), (.str [111, 100, 100, 52]), (.str [111, 100, 100, 54]), (.str [114, 105, 110, 103, 51]), (.str [114, 105, 110, 103, 52]), (.str [114, 105, 110, 103, 53]), (.str [114, 105, 110, 103, 54])])), (.ret (.bin .add (.var 0) (.lst [(.str [115, 119, 97, 112]), (.str [116, 117, 114, 110]), (.str [116, 117, 114, 110, 115])])))], 0⟩
def f_Gate___init__ : Fn := ⟨2, 1, [(.expr (.call 2 [(.var 1)]))], 1⟩
def f_Gate_read : Fn := ⟨3, 2, [(.set 2 false (.call 4 [(.var 1)])), (.ite (.cmp .isT (.var 2) .non) [(.raise 0 [])] []), (.ret (.var 2))], 0⟩
def f_Gate_table : Fn := ⟨1, 1, [(.ret (.attr "rows" (.var 0)))], 0⟩
def f_Gate_wires : Fn := ⟨1, 1, [(.ret (.bi .len [(.idx (.attr "rows" (.var 0)) (.int 0))]))], 0⟩
def f_Gate___bool__ : Fn := ⟨1, 1, [(.ret (.bl true))], 0⟩
def f_Gate___eq__ : Fn := ⟨2, 2, [(.ret (.and (.isi (.var 1) .gate) (.cmp .eq (.attr "rows" (.var 0)) (.attr "rows" (.var 1)))))], 0⟩
def f_Gate___str__ : Fn := ⟨1, 1, [(.ret (.mth .join (.str [32]) [(.attr "rows" (.var 0))]))], 0⟩
def f_Gate_of : Fn := ⟨2, 2, [(.expr (.call 3 [(.var 1), (.attr "wires" (.var 0))])), (.ret (.idx (.attr "rows" (.var 0)) (.call 1 [(.var 1)])))], 0⟩
def f_Gate_then : Fn := ⟨4, 2, [(.expr (.call 6 [(.var 1)])), (.ite (.cmp .ne (.attr "wires" (.var 1)) (.attr "wires" (.var 0))) [(.raise 0 [])] []), (.ret (.mkc 0 1000 (.bi .tuple [(.lc (.idx (.attr "rows" (.var 1)) (.call 1 [(.var 3)])) (.name 3) .seq [(.attr "rows" (.var 0))] [] [2, 3])])))], 0⟩
def f_Gate_back : Fn := ⟨4, 1, [(.set 1 false (.call 5 [(.attr "wires" (.var 0))])), (.ret (.mkc 0 1000 (.bi .tuple [(.lc (.idx (.var 1) (.mth .index (.attr "rows" (.var 0)) [(.var 3)])) (.name 3) .seq [(.var 1)] [] [2, 3])])))], 0⟩
def f_Gate_order : Fn := ⟨6, 1, [(.set 1 false (.call 5 [(.attr "wires" (.var 0))])), (.par [(2, false), (3, false)] [(.bi .list [(.attr "rows" (.var 0))]), (.int 1)]), (.while_ (.cmp .ne (.var 2) (.var 1)) [(.par [(2, false), (3, false)] [(.lc (.idx (.attr "rows" (.var 0)) (.call 1 [(.var 5)])) (.name 5) .seq [(.var 2)] [] [4, 5]), (.bin .add (.var 3) (.int 1))])]), (.ret (.var 3))], 0⟩
def fns0 : List (Nat × Fn) := [(0, f_is_bits), (1, f_place_of), (2, f_check_table), (3, f_check_row), (5, f_all_rows), (6, f_check_gate), (10, f_ones), (11, f_turned), (12, f_turned_if), (13, f_exchanged_last), (14, f_ring), (15, f_odd), (16, f_even), (17, f_given_for), (18, f_names), (19, f_named), (128, f__law_jar), (129, f__law_dip), (137, f__law_right), (138, f_law), (139, f__law_bitrows), (142, f__law_weight), (157, f__law_spin), (158, f__law_words), (1000, f_Gate___init__), (1001, f_Gate_read), (1002, f_Gate_table), (1003, f_Gate_wires), (1004, f_Gate___bool__), (1005, f_Gate___eq__), (1006, f_Gate___str__), (1007, f_Gate_of), (1008, f_Gate_then), (1009, f_Gate_back), (1010, f_Gate_order)]
def cons0 : List (Nat × D) := [(6, (.str [48, 49])), (7, (.tup [(.int (2)), (.int (4)), (.int (8)), (.int (16)), (.int (32)), (.int (64))])), (8, (.tup [(.str [98, 111, 116, 104]), (.str [99, 104, 111, 111, 115, 101]), (.str [101, 118, 101, 110, 52]), (.str [108, 101, 97, 100]), (.str [108, 101, 97, 100, 115]), (.str [111, 100, 100, 52]), (.str [111, 100, 100, 54]), (.str [114, 105, 110, 103, 51]), (.str [114, 105, 110, 103, 52]), (.str [114, 105, 110, 103, 53]), (.str [114, 105, 110, 103, 54]), (.str [115, 119, 97, 112]), (.str [116, 117, 114, 110]), (.str [116, 117, 114, 110, 115])])), (9, (.dct [(.str [98, 111, 116, 104]), (.str [99, 104, 111, 111, 115, 101]), (.str [108, 101, 97, 100]), (.str [108, 101, 97, 100, 115]), (.str [115, 119, 97, 112]), (.str [116, 117, 114, 110]), (.str [116, 117, 114, 110, 115])] [(.int (3)), (.int (3)), (.int (2)), (.int (3)), (.int (2)), (.int (1)), (.int (2))]))]
def kl0 : List (Option (List Str)) := [none, none, none, none, none, none, none, none, none, some ["both", "choose", "lead", "leads", "swap", "turn", "turns"], none, none, none, none, none, none, none, none, none, none, none, none, none, none, none, none, none, none, none]
def pg0 : Pg := ⟨fns0, cons0, reprD⟩
abbrev Xk (k : Nat) : Ctx := ⟨run pg0 k, fun x => cons0.lookup x, reprD⟩
end MP
end

section
set_option linter.all false
set_option Elab.async false
set_option maxRecDepth 1000000
set_option maxHeartbeats 0
namespace MP
def tabs07 : List (List Nat × List (List Nat)) := [([98, 111, 116, 104], [[48, 48, 48], [48, 48, 49], [48, 49, 48], [48, 49, 49], [49, 48, 48], [49, 48, 49], [49, 49, 49], [49, 49, 48]]),
  ([99, 104, 111, 111, 115, 101], [[48, 48, 48], [48, 48, 49], [48, 49, 48], [48, 49, 49], [49, 48, 48], [49, 49, 48], [49, 48, 49], [49, 49, 49]]),
  ([101, 118, 101, 110, 52], [[49, 49, 49, 49], [48, 48, 48, 49], [48, 48, 49, 48], [49, 49, 48, 48], [48, 49, 48, 48], [49, 48, 49, 48], [49, 48, 48, 49], [48, 49, 49, 49], [49, 48, 48, 48], [48, 49, 49, 48], [48, 49, 48, 49], [49, 48, 49, 49], [48, 48, 49, 49], [49, 49, 48, 49], [49, 49, 49, 48], [48, 48, 48, 48]]),
  ([108, 101, 97, 100], [[48, 48], [48, 49], [49, 49], [49, 48]]),
  ([108, 101, 97, 100, 115], [[48, 48, 48], [48, 48, 49], [48, 49, 48], [48, 49, 49], [49, 49, 49], [49, 49, 48], [49, 48, 49], [49, 48, 48]]),
  ([111, 100, 100, 52], [[48, 48, 48, 48], [49, 49, 49, 48], [49, 49, 48, 49], [48, 48, 49, 49], [49, 48, 49, 49], [48, 49, 48, 49], [48, 49, 49, 48], [49, 48, 48, 48], [48, 49, 49, 49], [49, 48, 48, 49], [49, 48, 49, 48], [48, 49, 48, 48], [49, 49, 48, 48], [48, 48, 49, 48], [48, 48, 48, 49], [49, 49, 49, 49]]),
  ([111, 100, 100, 54], [[48, 48, 48, 48, 48, 48], [49, 49, 49, 49, 49, 48], [49, 49, 49, 49, 48, 49], [48, 48, 48, 48, 49, 49], [49, 49, 49, 48, 49, 49], [48, 48, 48, 49, 48, 49], [48, 48, 48, 49, 49, 48], [49, 49, 49, 48, 48, 48], [49, 49, 48, 49, 49, 49], [48, 48, 49, 48, 48, 49], [48, 48, 49, 48, 49, 48], [49, 49, 48, 49, 48, 48], [48, 48, 49, 49, 48, 48], [49, 49, 48, 48, 49, 48], [49, 49, 48, 48, 48, 49], [48, 48, 49, 49, 49, 49], [49, 48, 49, 49, 49, 49], [48, 49, 48, 48, 48, 49], [48, 49, 48, 48, 49, 48], [49, 48, 49, 49, 48, 48], [48, 49, 48, 49, 48, 48], [49, 48, 49, 48, 49, 48], [49, 48, 49, 48, 48, 49], [48, 49, 48, 49, 49, 49], [48, 49, 49, 48, 48, 48], [49, 48, 48, 49, 49, 48], [49, 48, 48, 49, 48, 49], [48, 49, 49, 48, 49, 49], [49, 48, 48, 48, 49, 49], [48, 49, 49, 49, 48, 49], [48, 49, 49, 49, 49, 48], [49, 48, 48, 48, 48, 48], [48, 49, 49, 49, 49, 49], [49, 48, 48, 48, 48, 49], [49, 48, 48, 48, 49, 48], [48, 49, 49, 49, 48, 48], [49, 48, 48, 49, 48, 48], [48, 49, 49, 48, 49, 48], [48, 49, 49, 48, 48, 49], [49, 48, 48, 49, 49, 49], [49, 48, 49, 48, 48, 48], [48, 49, 48, 49, 49, 48], [48, 49, 48, 49, 48, 49], [49, 48, 49, 48, 49, 49], [48, 49, 48, 48, 49, 49], [49, 48, 49, 49, 48, 49], [49, 48, 49, 49, 49, 48], [48, 49, 48, 48, 48, 48], [49, 49, 48, 48, 48, 48], [48, 48, 49, 49, 49, 48], [48, 48, 49, 49, 48, 49], [49, 49, 48, 48, 49, 49], [48, 48, 49, 48, 49, 49], [49, 49, 48, 49, 48, 49], [49, 49, 48, 49, 49, 48], [48, 48, 49, 48, 48, 48], [48, 48, 48, 49, 49, 49], [49, 49, 49, 48, 48, 49], [49, 49, 49, 48, 49, 48], [48, 48, 48, 49, 48, 48], [49, 49, 49, 49, 48, 48], [48, 48, 48, 48, 49, 48], [48, 48, 48, 48, 48, 49], [49, 49, 49, 49, 49, 49]]),
  ([114, 105, 110, 103, 51], [[49, 49, 49], [48, 48, 49], [48, 49, 48], [48, 49, 49], [49, 48, 48], [49, 48, 49], [49, 49, 48], [48, 48, 48]]),
  ([114, 105, 110, 103, 52], [[49, 49, 49, 49], [48, 48, 48, 49], [48, 48, 49, 48], [48, 48, 49, 49], [48, 49, 48, 48], [48, 49, 48, 49], [48, 49, 49, 48], [48, 49, 49, 49], [49, 48, 48, 48], [49, 48, 48, 49], [49, 48, 49, 48], [49, 48, 49, 49], [49, 49, 48, 48], [49, 49, 48, 49], [49, 49, 49, 48], [48, 48, 48, 48]]),
  ([114, 105, 110, 103, 53], [[49, 49, 49, 49, 49], [48, 48, 48, 48, 49], [48, 48, 48, 49, 48], [48, 48, 48, 49, 49], [48, 48, 49, 48, 48], [48, 48, 49, 48, 49], [48, 48, 49, 49, 48], [48, 48, 49, 49, 49], [48, 49, 48, 48, 48], [48, 49, 48, 48, 49], [48, 49, 48, 49, 48], [48, 49, 48, 49, 49], [48, 49, 49, 48, 48], [48, 49, 49, 48, 49], [48, 49, 49, 49, 48], [48, 49, 49, 49, 49], [49, 48, 48, 48, 48], [49, 48, 48, 48, 49], [49, 48, 48, 49, 48], [49, 48, 48, 49, 49], [49, 48, 49, 48, 48], [49, 48, 49, 48, 49], [49, 48, 49, 49, 48], [49, 48, 49, 49, 49], [49, 49, 48, 48, 48], [49, 49, 48, 48, 49], [49, 49, 48, 49, 48], [49, 49, 48, 49, 49], [49, 49, 49, 48, 48], [49, 49, 49, 48, 49], [49, 49, 49, 49, 48], [48, 48, 48, 48, 48]]),
  ([114, 105, 110, 103, 54], [[49, 49, 49, 49, 49, 49], [48, 48, 48, 48, 48, 49], [48, 48, 48, 48, 49, 48], [48, 48, 48, 48, 49, 49], [48, 48, 48, 49, 48, 48], [48, 48, 48, 49, 48, 49], [48, 48, 48, 49, 49, 48], [48, 48, 48, 49, 49, 49], [48, 48, 49, 48, 48, 48], [48, 48, 49, 48, 48, 49], [48, 48, 49, 48, 49, 48], [48, 48, 49, 48, 49, 49], [48, 48, 49, 49, 48, 48], [48, 48, 49, 49, 48, 49], [48, 48, 49, 49, 49, 48], [48, 48, 49, 49, 49, 49], [48, 49, 48, 48, 48, 48], [48, 49, 48, 48, 48, 49], [48, 49, 48, 48, 49, 48], [48, 49, 48, 48, 49, 49], [48, 49, 48, 49, 48, 48], [48, 49, 48, 49, 48, 49], [48, 49, 48, 49, 49, 48], [48, 49, 48, 49, 49, 49], [48, 49, 49, 48, 48, 48], [48, 49, 49, 48, 48, 49], [48, 49, 49, 48, 49, 48], [48, 49, 49, 48, 49, 49], [48, 49, 49, 49, 48, 48], [48, 49, 49, 49, 48, 49], [48, 49, 49, 49, 49, 48], [48, 49, 49, 49, 49, 49], [49, 48, 48, 48, 48, 48], [49, 48, 48, 48, 48, 49], [49, 48, 48, 48, 49, 48], [49, 48, 48, 48, 49, 49], [49, 48, 48, 49, 48, 48], [49, 48, 48, 49, 48, 49], [49, 48, 48, 49, 49, 48], [49, 48, 48, 49, 49, 49], [49, 48, 49, 48, 48, 48], [49, 48, 49, 48, 48, 49], [49, 48, 49, 48, 49, 48], [49, 48, 49, 48, 49, 49], [49, 48, 49, 49, 48, 48], [49, 48, 49, 49, 48, 49], [49, 48, 49, 49, 49, 48], [49, 48, 49, 49, 49, 49], [49, 49, 48, 48, 48, 48], [49, 49, 48, 48, 48, 49], [49, 49, 48, 48, 49, 48], [49, 49, 48, 48, 49, 49], [49, 49, 48, 49, 48, 48], [49, 49, 48, 49, 48, 49], [49, 49, 48, 49, 49, 48], [49, 49, 48, 49, 49, 49], [49, 49, 49, 48, 48, 48], [49, 49, 49, 48, 48, 49], [49, 49, 49, 48, 49, 48], [49, 49, 49, 48, 49, 49], [49, 49, 49, 49, 48, 48], [49, 49, 49, 49, 48, 49], [49, 49, 49, 49, 49, 48], [48, 48, 48, 48, 48, 48]]),
  ([115, 119, 97, 112], [[48, 48], [49, 48], [48, 49], [49, 49]]),
  ([116, 117, 114, 110], [[49], [48]]),
  ([116, 117, 114, 110, 115], [[49, 49], [49, 48], [48, 49], [48, 48]])]
def body07 : List S := match f__law_right.body with
  | [_, .while_ _ b, _] => b.drop 1
  | _ => []
def gtd (t : List (List Nat)) : D := .ins 0 [.tup (t.map .str)]
def Good07 (k : Nat) (p : List Nat × List (List Nat)) : Prop := ∀ (j l : D) (a3 a4 : Option (D × Bool)), denSs (Xk k) body07 [some (j, false), some (l, true), some (.str p.1, false), a3, a4] [] = .ok (.nx [some (j, false), some (l, true), some (.str p.1, false), some (gtd p.2, false), some (.tup (p.2.map .str), false)]) []
end MP
end

section
set_option linter.all false
set_option Elab.async false
set_option maxRecDepth 1000000
set_option maxHeartbeats 0
namespace MP
theorem g07_0 (j l : D) (a3 a4 : Option (D × Bool)) : denSs (Xk 14) body07 [some (j, false), some (l, true), some (.str (tabs07[0]!).1, false), a3, a4] [] = .ok (.nx [some (j, false), some (l, true), some (.str (tabs07[0]!).1, false), some (gtd (tabs07[0]!).2, false), some (.tup ((tabs07[0]!).2.map .str), false)]) [] := by kernel_rfl
end MP
end

section
set_option linter.all false
set_option Elab.async false
set_option maxRecDepth 1000000
set_option maxHeartbeats 0
namespace MP
theorem g07_1 (j l : D) (a3 a4 : Option (D × Bool)) : denSs (Xk 14) body07 [some (j, false), some (l, true), some (.str (tabs07[1]!).1, false), a3, a4] [] = .ok (.nx [some (j, false), some (l, true), some (.str (tabs07[1]!).1, false), some (gtd (tabs07[1]!).2, false), some (.tup ((tabs07[1]!).2.map .str), false)]) [] := by kernel_rfl
end MP
end

section
set_option linter.all false
set_option Elab.async false
set_option maxRecDepth 1000000
set_option maxHeartbeats 0
namespace MP
theorem g07_2 (j l : D) (a3 a4 : Option (D × Bool)) : denSs (Xk 14) body07 [some (j, false), some (l, true), some (.str (tabs07[2]!).1, false), a3, a4] [] = .ok (.nx [some (j, false), some (l, true), some (.str (tabs07[2]!).1, false), some (gtd (tabs07[2]!).2, false), some (.tup ((tabs07[2]!).2.map .str), false)]) [] := by kernel_rfl
end MP
end

section
set_option linter.all false
set_option Elab.async false
set_option maxRecDepth 1000000
set_option maxHeartbeats 0
namespace MP
theorem g07_3 (j l : D) (a3 a4 : Option (D × Bool)) : denSs (Xk 14) body07 [some (j, false), some (l, true), some (.str (tabs07[3]!).1, false), a3, a4] [] = .ok (.nx [some (j, false), some (l, true), some (.str (tabs07[3]!).1, false), some (gtd (tabs07[3]!).2, false), some (.tup ((tabs07[3]!).2.map .str), false)]) [] := by kernel_rfl
end MP
end

section
set_option linter.all false
set_option Elab.async false
set_option maxRecDepth 1000000
set_option maxHeartbeats 0
namespace MP
theorem g07_4 (j l : D) (a3 a4 : Option (D × Bool)) : denSs (Xk 14) body07 [some (j, false), some (l, true), some (.str (tabs07[4]!).1, false), a3, a4] [] = .ok (.nx [some (j, false), some (l, true), some (.str (tabs07[4]!).1, false), some (gtd (tabs07[4]!).2, false), some (.tup ((tabs07[4]!).2.map .str), false)]) [] := by kernel_rfl
end MP
end

section
set_option linter.all false
set_option Elab.async false
set_option maxRecDepth 1000000
set_option maxHeartbeats 0
namespace MP
theorem g07_5 (j l : D) (a3 a4 : Option (D × Bool)) : denSs (Xk 14) body07 [some (j, false), some (l, true), some (.str (tabs07[5]!).1, false), a3, a4] [] = .ok (.nx [some (j, false), some (l, true), some (.str (tabs07[5]!).1, false), some (gtd (tabs07[5]!).2, false), some (.tup ((tabs07[5]!).2.map .str), false)]) [] := by kernel_rfl
end MP
end

section
set_option linter.all false
set_option Elab.async false
set_option maxRecDepth 1000000
set_option maxHeartbeats 0
namespace MP
theorem g07_6 (j l : D) (a3 a4 : Option (D × Bool)) : denSs (Xk 14) body07 [some (j, false), some (l, true), some (.str (tabs07[6]!).1, false), a3, a4] [] = .ok (.nx [some (j, false), some (l, true), some (.str (tabs07[6]!).1, false), some (gtd (tabs07[6]!).2, false), some (.tup ((tabs07[6]!).2.map .str), false)]) [] := by kernel_rfl
end MP
end

section
set_option linter.all false
set_option Elab.async false
set_option maxRecDepth 1000000
set_option maxHeartbeats 0
namespace MP
theorem g07_7 (j l : D) (a3 a4 : Option (D × Bool)) : denSs (Xk 14) body07 [some (j, false), some (l, true), some (.str (tabs07[7]!).1, false), a3, a4] [] = .ok (.nx [some (j, false), some (l, true), some (.str (tabs07[7]!).1, false), some (gtd (tabs07[7]!).2, false), some (.tup ((tabs07[7]!).2.map .str), false)]) [] := by kernel_rfl
end MP
end

section
set_option linter.all false
set_option Elab.async false
set_option maxRecDepth 1000000
set_option maxHeartbeats 0
namespace MP
theorem g07_8 (j l : D) (a3 a4 : Option (D × Bool)) : denSs (Xk 14) body07 [some (j, false), some (l, true), some (.str (tabs07[8]!).1, false), a3, a4] [] = .ok (.nx [some (j, false), some (l, true), some (.str (tabs07[8]!).1, false), some (gtd (tabs07[8]!).2, false), some (.tup ((tabs07[8]!).2.map .str), false)]) [] := by kernel_rfl
end MP
end

section
set_option linter.all false
set_option Elab.async false
set_option maxRecDepth 1000000
set_option maxHeartbeats 0
namespace MP
theorem g07_9 (j l : D) (a3 a4 : Option (D × Bool)) : denSs (Xk 14) body07 [some (j, false), some (l, true), some (.str (tabs07[9]!).1, false), a3, a4] [] = .ok (.nx [some (j, false), some (l, true), some (.str (tabs07[9]!).1, false), some (gtd (tabs07[9]!).2, false), some (.tup ((tabs07[9]!).2.map .str), false)]) [] := by kernel_rfl
end MP
end

section
set_option linter.all false
set_option Elab.async false
set_option maxRecDepth 1000000
set_option maxHeartbeats 0
namespace MP
theorem g07_10 (j l : D) (a3 a4 : Option (D × Bool)) : denSs (Xk 14) body07 [some (j, false), some (l, true), some (.str (tabs07[10]!).1, false), a3, a4] [] = .ok (.nx [some (j, false), some (l, true), some (.str (tabs07[10]!).1, false), some (gtd (tabs07[10]!).2, false), some (.tup ((tabs07[10]!).2.map .str), false)]) [] := by kernel_rfl
end MP
end

section
set_option linter.all false
set_option Elab.async false
set_option maxRecDepth 1000000
set_option maxHeartbeats 0
namespace MP
theorem g07_11 (j l : D) (a3 a4 : Option (D × Bool)) : denSs (Xk 14) body07 [some (j, false), some (l, true), some (.str (tabs07[11]!).1, false), a3, a4] [] = .ok (.nx [some (j, false), some (l, true), some (.str (tabs07[11]!).1, false), some (gtd (tabs07[11]!).2, false), some (.tup ((tabs07[11]!).2.map .str), false)]) [] := by kernel_rfl
end MP
end

section
set_option linter.all false
set_option Elab.async false
set_option maxRecDepth 1000000
set_option maxHeartbeats 0
namespace MP
theorem g07_12 (j l : D) (a3 a4 : Option (D × Bool)) : denSs (Xk 14) body07 [some (j, false), some (l, true), some (.str (tabs07[12]!).1, false), a3, a4] [] = .ok (.nx [some (j, false), some (l, true), some (.str (tabs07[12]!).1, false), some (gtd (tabs07[12]!).2, false), some (.tup ((tabs07[12]!).2.map .str), false)]) [] := by kernel_rfl
end MP
end

section
set_option linter.all false
set_option Elab.async false
set_option maxRecDepth 1000000
set_option maxHeartbeats 0
namespace MP
theorem g07_13 (j l : D) (a3 a4 : Option (D × Bool)) : denSs (Xk 14) body07 [some (j, false), some (l, true), some (.str (tabs07[13]!).1, false), a3, a4] [] = .ok (.nx [some (j, false), some (l, true), some (.str (tabs07[13]!).1, false), some (gtd (tabs07[13]!).2, false), some (.tup ((tabs07[13]!).2.map .str), false)]) [] := by kernel_rfl
end MP
end

section
set_option linter.all false
set_option Elab.async false
set_option maxRecDepth 1000000
set_option maxHeartbeats 0
namespace MP
theorem all07 : ∀ p ∈ tabs07, Good07 14 p := by
  intro p hp
  obtain ⟨i, hi, rfl⟩ := List.mem_iff_getElem.mp hp
  have h14 : tabs07.length = 14 := by kernel_rfl
  have e : ∀ (i : Nat) (h : i < tabs07.length), Good07 14 tabs07[i]! → Good07 14 tabs07[i] := fun i h q => by
    have e : tabs07[i]! = tabs07[i] := by simp [h]
    rw [← e]; exact q
  refine e i hi ?_
  rw [h14] at hi
  have : i = 0 ∨ i = 1 ∨ i = 2 ∨ i = 3 ∨ i = 4 ∨ i = 5 ∨ i = 6 ∨ i = 7 ∨ i = 8 ∨ i = 9 ∨ i = 10 ∨ i = 11 ∨ i = 12 ∨ i = 13 := by omega
  rcases this with rfl | rfl | rfl | rfl | rfl | rfl | rfl | rfl | rfl | rfl | rfl | rfl | rfl | rfl
  · exact g07_0
  · exact g07_1
  · exact g07_2
  · exact g07_3
  · exact g07_4
  · exact g07_5
  · exact g07_6
  · exact g07_7
  · exact g07_8
  · exact g07_9
  · exact g07_10
  · exact g07_11
  · exact g07_12
  · exact g07_13
theorem eqDs_nil (l : List D) : eqDs l [] = l.isEmpty := by cases l <;> rfl
theorem words07 : run pg0 2 158 [] [] = .ok (.lst (tabs07.map fun p => .str p.1), true) [] := by kernel_rfl
theorem spl07 : f__law_right.body = [.set 1 true (.call 158 []), .while_ (.cmp .ne (.bvar 1) (.lst [])) (.setPop 2 1 (.call 129 [.var 0, .bi .len [.bvar 1]]) :: body07), .ret (.bl true)] := by kernel_rfl
theorem np07 : f__law_right.n = 5 ∧ f__law_right.p = 1 ∧ f__law_right.q = 0 := ⟨by kernel_rfl, by kernel_rfl, by kernel_rfl⟩
theorem len07 : tabs07.length = 14 := by kernel_rfl
/-- a while: what holds as long as a number falls -/
theorem w_whileN {X : Ctx} {c : C} {b ss : List S} {Q : Fl → Mem → Prop} (I : Nat → Env → Mem → Prop) {m : Nat} (hm : m < 999999) {e : Env} {M : Mem} (h0 : I m e M)
    (hz : ∀ e M, I 0 e M → ∃ o, den X c e M = .ok (.bl false, o) M) (hs : ∀ m e M, I (m + 1) e M → (∃ o, den X c e M = .ok (.bl true, o) M) ∧ Wp (denSs X b e M) (fun fl M' => ∃ e', fl = .nx e' ∧ I m e' M'))
    (hk : ∀ e' M', I 0 e' M' → Wp (denSs X ss e' M') Q) : Wp (denSs X (.while_ c b :: ss) e M) Q := by
  have main : ∀ (m N : Nat), m < N → ∀ e M, I m e M → ∃ e' M', whileL (fun e => den X c e) (fun e => denSs X b e) N e M = .ok (.nx e') M' ∧ I 0 e' M' := by
    intro m
    induction m with
    | zero =>
      intro N hN e M h
      obtain ⟨N, rfl⟩ : ∃ N', N = N' + 1 := ⟨N - 1, by omega⟩
      obtain ⟨o, hd⟩ := hz e M h
      exact ⟨e, M, bind_of hd rfl, h⟩
    | succ m ih =>
      intro N hN e M h
      obtain ⟨N, rfl⟩ : ∃ N', N = N' + 1 := ⟨N - 1, by omega⟩
      obtain ⟨⟨o, hd⟩, fl, M1, h1, e1, rfl, h2⟩ := hs m e M h
      obtain ⟨e2, M2, h3, h4⟩ := ih N (by omega) e1 M1 h2
      exact ⟨e2, M2, bind_of hd (bind_of h1 h3), h4⟩
  obtain ⟨e', M', h1, h2⟩ := main m 1000000 (by omega) e M h0
  exact w_cons h1 (hk e' M' h2)
theorem dip_run7 {k : Nat} (hk : 1 ≤ k) {n : Nat} {M : Mem} {q : Int} (h : Jar M n q) {m : Int} (h1 : 0 < m) (h2 : m < 1000000) (hq : q < 1000000000) : ∃ r : Nat, ∃ M', (r : Int) < m ∧ run pg0 k 129 [.mtb n, .int m] M = .ok (.int r, false) M' ∧ Jar M' n (q + 1) := by
  obtain ⟨k, rfl⟩ : ∃ k', k = k' + 1 := ⟨k - 1, by omega⟩
  obtain ⟨r, M', r0, r1, hr, _, hj⟩ := dip_eq (X := Xk k) h h1 h2 hq
  obtain ⟨r, rfl⟩ : ∃ r' : Nat, r = r' := ⟨r.toNat, by omega⟩
  exact ⟨r, M', r1, hr, hj⟩
theorem right_ok {k : Nat} (hk : 14 ≤ k) {n : Nat} {M : Mem} (hj : Jar M n 0) : ∃ o M', run pg0 (k + 1) 137 [.mtb n] M = .ok (.bl true, o) M' := by
  suffices h : Wp (fnRun (Xk k) f__law_right [.mtb n] M) fun b _ => b = (.bl true, false) by
    obtain ⟨_, M', h, rfl⟩ := h
    exact ⟨_, M', h⟩
  refine w_fn (by rw [np07.2.1]; rfl) ?_ np07.2.2
  rw [spl07, np07.1, np07.2.1]
  refine w_set (ev_call evl_nil (run_lift words07 (by omega) M)) ?_
  refine w_whileN (m := 14) (fun m e M => m ≤ 14 ∧ ∃ q : Int, q < 100 - m ∧ Jar M n q ∧ ∃ (l : List D) (a2 a3 a4 : Option (D × Bool)), l.length = m ∧ (∀ d ∈ l, ∃ p ∈ tabs07, d = .str p.1) ∧ e = [some (.mtb n, false), some (.lst l, true), a2, a3, a4]) (by omega) ⟨by omega, 0, by omega, hj, _, none, none, none, by rw [List.length_map, len07], fun d hd => ?_, rfl⟩ ?_ ?_ ?_
  · obtain ⟨p, hp, rfl⟩ := List.mem_map.mp hd
    exact ⟨p, hp, rfl⟩
  · rintro e M ⟨h14, q, hq, hj, l, a2, a3, a4, hl, hin, rfl⟩
    have : l = [] := List.length_eq_zero_iff.mp hl
    subst this
    exact ⟨_, ev_cmp (ev_bvar rfl) (ev_lst evl_nil) rfl⟩
  · rintro m e M ⟨h14, q, hq, hj, l, a2, a3, a4, hl, hin, rfl⟩
    have hsh : l.all (shp 15) = true := by
      rw [List.all_eq_true]
      intro d hd
      obtain ⟨p, _, rfl⟩ := hin d hd
      rfl
    refine ⟨⟨_, ev_cmp (t := true) (ev_bvar rfl) (ev_lst evl_nil) ?_⟩, ?_⟩
    · rw [cm_neD (show shp 16 (.lst l) = true from hsh) rfl]
      show some (!eqDs l []) = _
      rw [eqDs_nil]
      cases l with
      | nil => simp at hl
      | cons a l => rfl
    · obtain ⟨r, M1, hr1, hr, hj1⟩ := dip_run7 (k := k) (by omega) hj (m := l.length) (by omega) (by omega) (by omega)
      have hrl : r < l.length := by omega
      obtain ⟨p, hp, hpe⟩ := hin l[r] (List.getElem_mem hrl)
      refine w_setPop (z := r) (v := l[r]) rfl rfl (ev_call (evl_cons (ev_var rfl) (evl_cons (ev_bi (evl_cons (ev_bvar rfl) evl_nil) rfl) evl_nil)) hr) (List.getElem?_eq_getElem hrl) ?_
      rw [hpe]
      have := ss_lift (P := pg0) (k := k) (all07 p hp (.mtb n) (.lst (l.eraseIdx r)) a3 a4) hk M1
      refine ⟨_, _, this, _, rfl, by omega, q + 1, by omega, hj1, _, _, _, _, ?_, fun d hd => hin d (List.mem_of_mem_eraseIdx hd), rfl⟩
      rw [List.length_eraseIdx_of_lt hrl]; omega
  · rintro e M ⟨h14, q, hq, hj, l, a2, a3, a4, hl, hin, rfl⟩
    exact w_ret ev_bl rfl
theorem law1 {k : Nat} (hk : 17 ≤ k) {ns : List Int} (hl : ns.length ≤ 63) (hn : ∀ z ∈ ns, z.natAbs.log2 ≤ 1048576) : ∃ o M', run pg0 k 138 [.scr ns] [] = .ok (.bl true, o) M' := by
  obtain ⟨k, rfl⟩ : ∃ k', k = k' + 1 + 1 := ⟨k - 2, by omega⟩
  exact law_ok (X := Xk (k + 1)) (N := 3) (by omega) hl (fun t M ht => jar_ok (Xk k) hn hl ht M) (fun n M hj => right_ok (k := k) (by omega) hj) []
theorem law0 : ∀ ns : List Int, ns.length ≤ 63 → (∀ z ∈ ns, z.natAbs.log2 ≤ 1048576) → ∃ o M', run pg0 30 138 [.scr ns] [] = .ok (.bl true, o) M' := fun _ hl hn => law1 (by omega) hl hn
end MP
end
open PySem PySem.W PyProof.Rows
set_option Elab.async false
set_option maxRecDepth 100000 in
set_option maxHeartbeats 0 in
theorem PySem.Challenge.cw_sparewires_k07_whole_library_by_own_tabl_holds : PySem.Challenge.rw_sparewires_k07_whole_library_by_own_tabl.Holds := by
  w_on; o_law; k_head; (case hw => w_witness2)
  k_fill
  refine MP.walkF (l := PySem.Challenge.rw_sparewires_k07_whole_library_by_own_tabl) (n := 63) (k := 30) (i := 138) (x := "_law_script") (Pl := MP.pg0) (kl := MP.kl0) rfl (by decide) rfl ⟨rfl, by decide, by decide⟩ (fun w h Y => PySem.W.kIn_of Y) (by kernel_rfl) ?_ ?_ ?_ ?_ ?_ rfl MP.law0
  · intro p; kernel_rfl
  · intro p; kernel_rfl
  · intro p; kernel_rfl
  · intro p; kernel_rfl
  · intro p
    refine ⟨?_, ?_⟩
    · kernel_rfl
    · kernel_rfl
